import PyProof.Rows.All
import PySem.Challenge.RW_mapwebs_k47_whole_nearest
import HandS.ForMost
import HandS.DictComp
import HandS.IsInst
import HandS.Deep
import HandS.SortRule
import HandS.SortInts
import HandS.TupAny
import HandS.TupMul
import HandS.Style
import HandS.Walk
import HandS.TupLen
import HandS.WordsDict
import HandS.Conv
import HandS.ForExc
import KE.KSortedM
import HandS.Iter
import HandS.More
import HandS.Small
import KE.GoesEnum
set_option Elab.async false
set_option linter.all false
set_option maxRecDepth 100000
set_option Elab.async false
set_option linter.all false
set_option maxRecDepth 100000
namespace Mr
open PySem PySem.Spec PyProof.Rows L2

/-! ### data -/
inductive D where
  | non | bl (b : Bool) | int (i : Int) | str (x : Str)
  | tup (ds : List D) | lst (ds : List D) | kt (ds : List D)
  | dK (ks : List Key) (ds : List D) | dT (ks : List (List Key)) (ds : List D)
  | ob (c : Str) (ns : List Str) (ds : List D) | bag

/-- the law's own source of numbers -/
structure Bag where
  great : List Int
  seed : Int
  len : Int
  cnt : Int

/-- where the data stand -/
structure MC where
  K : PySem.W.Frag
  mg : Str → Option Value
  pb : Addr
  pg : Addr

/-- a tuple of the written part -/
def KTup (K : PySem.W.Frag) (a : Addr) (xs : List V) : Prop :=
  ∃ (o : Obj) (its : Array Value) (n : Nat), K.lookup a = some o ∧ o.cls = .type "tuple" ∧ o.data = .seq its n ∧ its.size ≤ sizeLine ∧ Vals xs its.toList

mutual
def Rep (c : MC) (G : Hp) : D → V → Prop
  | .non, v => v = .non
  | .bl b, v => v = .bl b
  | .int i, v => v = .int i
  | .str x, v => v = .str x
  | .tup ds, v => ∃ p vs, v = .ref p ∧ G p = some (.tup vs) ∧ Reps c G ds vs
  | .lst ds, v => ∃ p vs, v = .ref p ∧ G p = some (.lst vs) ∧ Reps c G ds vs
  | .kt ds, v => ∃ p vs, v = .ref p ∧ KTup c.K p vs ∧ Reps c G ds vs
  | .dK ks ds, v => ∃ p vs, v = .ref p ∧ G p = some (.dK (ks.zip vs)) ∧ ks.length = vs.length ∧ Reps c G ds vs
  | .dT ks ds, v => ∃ p vs, v = .ref p ∧ G p = some (.dT (ks.zip vs)) ∧ ks.length = vs.length ∧ Reps c G ds vs
  | .ob n ns ds, v => ∃ p C dx vs, v = .ref p ∧ G p = some (.ins C dx (ns.zip vs)) ∧ ns.length = vs.length ∧ c.mg n = some (.ref C) ∧ Reps c G ds vs
  | .bag, v => v = .ref c.pb
def Reps (c : MC) (G : Hp) : List D → List V → Prop
  | [], vs => vs = []
  | d :: ds, vs => ∃ v ws, vs = v :: ws ∧ Rep c G d v ∧ Reps c G ds ws
end

def Le (G G' : Hp) : Prop := ∀ a u, G a = some u → G' a = some u
theorem Le.refl (G : Hp) : Le G G := fun _ _ h => h
theorem Le.trans {G G' G'' : Hp} (a : Le G G') (b : Le G' G'') : Le G G'' := fun x u h => b x u (a x u h)
theorem Le.rd {G G' : Hp} (h : Le G G') {a : Addr} {u : HO} (r : Rd G a u) : Rd G' a u := by
  rcases r with r | ⟨o, r⟩
  · exact .inl (h _ _ r)
  · exact .inr ⟨o, h _ _ r⟩
theorem Le.l {K : PySem.W.Frag} {G G' : Hp} (h : Le G G') {a : Addr} {xs : List V} (r : SqL K G a xs) : SqL K G' a xs := by
  rcases r with r | r
  · exact .inl (h.rd r)
  · exact .inr r
theorem Le.t {K : PySem.W.Frag} {G G' : Hp} (h : Le G G') {a : Addr} {xs : List V} (r : SqT K G a xs) : SqT K G' a xs := by
  rcases r with r | r
  · exact .inl (h.rd r)
  · exact .inr r
theorem Le.new {G : Hp} {p : Addr} {o : HO} (h : G p = none) : Le G (upd G p o) := fun a u e => by
  rw [upd_ne (ne_of_none e h)]
  exact e

section
variable {c : MC} {G G' : Hp}
mutual
theorem Rep.mono (h : Le G G') : ∀ (d : D) (v : V), Rep c G d v → Rep c G' d v
  | .non, _, r => r
  | .bl _, _, r => r
  | .int _, _, r => r
  | .str _, _, r => r
  | .tup ds, v, r => by
    obtain ⟨p, vs, e, s, r⟩ := r
    exact ⟨p, vs, e, h _ _ s, Reps.mono h ds vs r⟩
  | .lst ds, v, r => by
    obtain ⟨p, vs, e, s, r⟩ := r
    exact ⟨p, vs, e, h _ _ s, Reps.mono h ds vs r⟩
  | .kt ds, v, r => by
    obtain ⟨p, vs, e, s, r⟩ := r
    exact ⟨p, vs, e, s, Reps.mono h ds vs r⟩
  | .dK ks ds, v, r => by
    obtain ⟨p, vs, e, s, l, r⟩ := r
    exact ⟨p, vs, e, h _ _ s, l, Reps.mono h ds vs r⟩
  | .dT ks ds, v, r => by
    obtain ⟨p, vs, e, s, l, r⟩ := r
    exact ⟨p, vs, e, h _ _ s, l, Reps.mono h ds vs r⟩
  | .ob n ns ds, v, r => by
    obtain ⟨p, C, dx, vs, e, s, l, m, r⟩ := r
    exact ⟨p, C, dx, vs, e, h _ _ s, l, m, Reps.mono h ds vs r⟩
  | .bag, _, r => r
theorem Reps.mono (h : Le G G') : ∀ (ds : List D) (vs : List V), Reps c G ds vs → Reps c G' ds vs
  | [], _, r => r
  | d :: ds, vs, r => by
    obtain ⟨v, ws, e, r1, r2⟩ := r
    exact ⟨v, ws, e, Rep.mono h d v r1, Reps.mono h ds ws r2⟩
end
theorem Reps.nil : Reps c G [] [] := by unfold Reps; rfl
theorem Reps.cons {d : D} {ds : List D} {v : V} {vs : List V} (h : Rep c G d v) (t : Reps c G ds vs) : Reps c G (d :: ds) (v :: vs) := by
  unfold Reps
  exact ⟨v, vs, rfl, h, t⟩
theorem Reps.len : ∀ {ds : List D} {vs : List V}, Reps c G ds vs → ds.length = vs.length
  | [], vs, r => by
    unfold Reps at r
    rw [r]; rfl
  | d :: ds, vs, r => by
    unfold Reps at r
    obtain ⟨v, ws, rfl, _, r⟩ := r
    rw [List.length_cons, List.length_cons, Reps.len r]
theorem Reps.get : ∀ {ds : List D} {vs : List V} {i : Nat} {d : D}, Reps c G ds vs → ds[i]? = some d → ∃ v, vs[i]? = some v ∧ Rep c G d v
  | [], _, _, _, _, e => by simp at e
  | x :: ds, vs, 0, d, r, e => by
    unfold Reps at r
    obtain ⟨v, ws, rfl, r1, _⟩ := r
    have : x = d := by simpa using e
    subst this
    exact ⟨v, rfl, r1⟩
  | x :: ds, vs, i + 1, d, r, e => by
    unfold Reps at r
    obtain ⟨v, ws, rfl, _, r2⟩ := r
    obtain ⟨w, h1, h2⟩ := Reps.get (i := i) (d := d) r2 (by simpa using e)
    exact ⟨w, by simpa using h1, h2⟩
theorem Reps.getV : ∀ {ds : List D} {vs : List V} {i : Nat} {v : V}, Reps c G ds vs → vs[i]? = some v → ∃ d, ds[i]? = some d ∧ Rep c G d v
  | [], vs, i, v, r, e => by
    unfold Reps at r
    subst r
    simp at e
  | x :: ds, vs, 0, v, r, e => by
    unfold Reps at r
    obtain ⟨w, ws, rfl, r1, _⟩ := r
    have : w = v := by simpa using e
    subst this
    exact ⟨x, rfl, r1⟩
  | x :: ds, vs, i + 1, v, r, e => by
    unfold Reps at r
    obtain ⟨w, ws, rfl, _, r2⟩ := r
    obtain ⟨d, h1, h2⟩ := Reps.getV (i := i) (v := v) r2 (by simpa using e)
    exact ⟨d, by simpa using h1, h2⟩
theorem Reps.append : ∀ {ds es : List D} {vs ws : List V}, Reps c G ds vs → Reps c G es ws → Reps c G (ds ++ es) (vs ++ ws)
  | [], _, vs, _, r, s => by
    unfold Reps at r
    subst r
    exact s
  | d :: ds, es, vs, ws, r, s => by
    unfold Reps at r
    obtain ⟨v, us, rfl, r1, r2⟩ := r
    exact .cons r1 (Reps.append r2 s)
theorem Reps.one {d : D} {v : V} (h : Rep c G d v) : Reps c G [d] [v] := .cons h .nil
theorem Reps.take (n : Nat) : ∀ {ds : List D} {vs : List V}, Reps c G ds vs → Reps c G (ds.take n) (vs.take n) := by
  induction n with
  | zero => intro ds vs _; exact .nil
  | succ n ih =>
    intro ds vs r
    cases ds with
    | nil => unfold Reps at r; subst r; exact .nil
    | cons d ds =>
      unfold Reps at r
      obtain ⟨v, us, rfl, r1, r2⟩ := r
      exact .cons r1 (ih r2)
theorem Reps.drop (n : Nat) : ∀ {ds : List D} {vs : List V}, Reps c G ds vs → Reps c G (ds.drop n) (vs.drop n) := by
  induction n with
  | zero => intro ds vs r; exact r
  | succ n ih =>
    intro ds vs r
    cases ds with
    | nil => unfold Reps at r; subst r; exact .nil
    | cons d ds =>
      unfold Reps at r
      obtain ⟨v, us, rfl, r1, r2⟩ := r
      exact ih r2
theorem Reps.set {d : D} {v : V} (h : Rep c G d v) : ∀ (i : Nat) {ds : List D} {vs : List V}, Reps c G ds vs → Reps c G (ds.set i d) (vs.set i v)
  | _, [], vs, r => by
    unfold Reps at r
    subst r
    exact .nil
  | 0, x :: ds, vs, r => by
    unfold Reps at r
    obtain ⟨w, us, rfl, r1, r2⟩ := r
    exact .cons h r2
  | i + 1, x :: ds, vs, r => by
    unfold Reps at r
    obtain ⟨w, us, rfl, r1, r2⟩ := r
    exact .cons r1 (Reps.set h i r2)
theorem Reps.erase : ∀ (i : Nat) {ds : List D} {vs : List V}, Reps c G ds vs → Reps c G (ds.eraseIdx i) (vs.eraseIdx i)
  | _, [], vs, r => by
    unfold Reps at r
    subst r
    exact .nil
  | 0, x :: ds, vs, r => by
    unfold Reps at r
    obtain ⟨w, us, rfl, r1, r2⟩ := r
    exact r2
  | i + 1, x :: ds, vs, r => by
    unfold Reps at r
    obtain ⟨w, us, rfl, r1, r2⟩ := r
    exact .cons r1 (Reps.erase i r2)
theorem Reps.reverse : ∀ {ds : List D} {vs : List V}, Reps c G ds vs → Reps c G ds.reverse vs.reverse
  | [], vs, r => by
    unfold Reps at r
    subst r
    exact .nil
  | d :: ds, vs, r => by
    unfold Reps at r
    obtain ⟨v, us, rfl, r1, r2⟩ := r
    rw [List.reverse_cons, List.reverse_cons]
    exact (Reps.reverse r2).append (.one r1)
theorem Reps.ints {ns : List Int} : ∀ {vs : List V}, Reps c G (ns.map D.int) vs → vs = ns.map V.int := by
  induction ns with
  | nil => intro vs r; exact r
  | cons n ns ih =>
    intro vs r
    unfold Reps at r
    obtain ⟨v, ws, rfl, r1, r2⟩ := (show ∃ v ws, vs = v :: ws ∧ Rep c G (.int n) v ∧ Reps c G (ns.map D.int) ws from r)
    rw [List.map_cons, ih r2]
    congr 1
theorem Reps.of_ints (ns : List Int) : Reps c G (ns.map D.int) (ns.map V.int) := by
  induction ns with
  | nil => exact .nil
  | cons n ns ih => exact .cons rfl ih
theorem Reps.bls {bs : List Bool} : ∀ {vs : List V}, Reps c G (bs.map D.bl) vs → vs = bs.map V.bl := by
  induction bs with
  | nil => intro vs r; exact r
  | cons n ns ih =>
    intro vs r
    unfold Reps at r
    obtain ⟨v, ws, rfl, r1, r2⟩ := (show ∃ v ws, vs = v :: ws ∧ Rep c G (.bl n) v ∧ Reps c G (ns.map D.bl) ws from r)
    rw [List.map_cons, ih r2]
    congr 1
end

/-! ### the world: what stands still (G) within what is (H), and the bag -/
/-- what a walk may lock -/
def lk : HO → Bool
  | .lst _ => true
  | .dK _ => true
  | .dT _ => true
  | _ => false
def nfz : HO → Bool
  | .frz _ _ => false
  | _ => true
structure Wd (c : MC) (b : Bag) (G H : Hp) : Prop where
  sub : ∀ a u, G a = some u → H a = some u ∨ (lk u = true ∧ ∃ o, H a = some (.frz o u))
  nz : ∀ a u, G a = some u → nfz u = true
  gb : G c.pb = none
  gg : G c.pg = none
  ne : c.pb ≠ c.pg
  hb : H c.pb = some (.lst [.ref c.pg, .int b.seed, .int b.len, .int b.cnt])
  hg : H c.pg = some (.lst (b.great.map V.int))
  bz : b.great.length ≤ 63

structure Stp (c : MC) (G H G' H' : Hp) : Prop where
  g : Le G G'
  h : ∀ a u, a ≠ c.pb → a ≠ c.pg → H a = some u → H' a = some u ∨ (lk u = true ∧ G' a = some u ∧ ∃ o, H' a = some (.frz o u))
  fr : ∀ a, H a ≠ none → G a = none → G' a = none
  dm : ∀ a, H a ≠ none → H' a ≠ none
theorem Stp.refl (c : MC) (G H : Hp) : Stp c G H G H := ⟨Le.refl G, fun _ _ _ _ e => .inl e, fun _ _ e => e, fun _ e => e⟩
theorem Stp.trans {c : MC} {G H G1 H1 G2 H2 : Hp} (a : Stp c G H G1 H1) (b : Stp c G1 H1 G2 H2) : Stp c G H G2 H2 :=
  ⟨a.g.trans b.g, (fun x u n m e => by
    rcases a.h x u n m e with e1 | ⟨l, g, o, e1⟩
    · exact b.h x u n m e1
    · rcases b.h x _ n m e1 with e2 | ⟨l2, _⟩
      · exact .inr ⟨l, b.g _ _ g, o, e2⟩
      · cases l2), fun x h e => b.fr x (a.dm x h) (a.fr x h e), fun x h => b.dm x (a.dm x h)⟩

/-- what does not stand still is not locked -/
theorem Stp.hn {c : MC} {G H G' H' : Hp} (s : Stp c G H G' H') {a : Addr} {u : HO} (nb : a ≠ c.pb) (ng : a ≠ c.pg) (gn : G a = none) (e : H a = some u) : H' a = some u := by
  rcases s.h a u nb ng e with z | ⟨_, g, _⟩
  · exact z
  · rw [s.fr a (by rw [e]; exact fun z => nomatch z) gn] at g
    cases g
section
variable {c : MC} {b : Bag} {G H G' H' : Hp}
theorem Wd.rd (w : Wd c b G H) {a : Addr} {u : HO} (e : G a = some u) : Rd H a u := by
  rcases w.sub a u e with z | ⟨_, o, z⟩
  · exact .inl z
  · exact .inr ⟨o, z⟩
theorem Wd.tup (w : Wd c b G H) {a : Addr} {xs : List V} (e : G a = some (.tup xs)) : H a = some (.tup xs) := by
  rcases w.sub a _ e with z | ⟨z, _⟩
  · exact z
  · cases z
theorem Wd.ins (w : Wd c b G H) {a C dx : Addr} {fs : List (Str × V)} (e : G a = some (.ins C dx fs)) : H a = some (.ins C dx fs) := by
  rcases w.sub a _ e with z | ⟨z, _⟩
  · exact z
  · cases z
theorem Wd.hbne (w : Wd c b G H) : H c.pb ≠ none := by rw [w.hb]; exact fun z => nomatch z
theorem Wd.hgne (w : Wd c b G H) : H c.pg ≠ none := by rw [w.hg]; exact fun z => nomatch z
theorem Wd.there (w : Wd c b G H) {a : Addr} {u : HO} (e : G a = some u) : H a ≠ none := by
  rcases w.sub a u e with z | ⟨_, o, z⟩ <;> (rw [z]; exact fun z => nomatch z)
theorem Wd.notb (w : Wd c b G H) {a : Addr} {u : HO} (e : G a = some u) : a ≠ c.pb ∧ a ≠ c.pg := by
  constructor
  · rintro rfl
    rw [w.gb] at e; cases e
  · rintro rfl
    rw [w.gg] at e; cases e
theorem Wd.gnone (w : Wd c b G H) {p : Addr} (hp : H p = none) : G p = none := by
  cases e : G p with
  | none => rfl
  | some u => exact absurd hp (w.there e)
theorem rd_none {G : Hp} {a : Addr} {u : HO} (e : Rd G a u) (n : G a = none) : False := by
  rcases e with e | ⟨o, e⟩
  · rw [n] at e; cases e
  · rw [n] at e; cases e
/-- a new object, to stand still from now on -/
theorem Stp.new (w : Wd c b G H) {p : Addr} {o : HO} (hp : H p = none) (hz : nfz o = true := by rfl) : Stp c G H (upd G p o) (upd H p o) ∧ (Wd c b (upd G p o) (upd H p o)) := by
  have gp : G p = none := w.gnone hp
  have nb : c.pb ≠ p := fun z => by rw [← z] at hp; exact w.hbne hp
  have ng : c.pg ≠ p := fun z => by rw [← z] at hp; exact w.hgne hp
  have k : ∀ a, H a ≠ none → a ≠ p := fun a h z => by rw [z] at h; exact h hp
  refine ⟨⟨Le.new gp, fun a u _ _ e => ?_, fun a h e => ?_, fun a h => ?_⟩, ⟨fun a u e => ?_, fun a u e => ?_, ?_, ?_, w.ne, ?_, ?_, w.bz⟩⟩
  · rw [upd_ne (ne_of_none e hp)]; exact .inl e
  · rw [upd_ne (k a h)]; exact e
  · rw [upd_ne (k a h)]; exact h
  · by_cases h : a = p
    · subst h
      rw [upd_same] at e
      exact .inl (by rw [upd_same]; exact e)
    · rw [upd_ne h] at e
      rw [upd_ne h]
      exact w.sub a u e
  · by_cases h : a = p
    · subst h
      rw [upd_same] at e
      cases e
      exact hz
    · rw [upd_ne h] at e
      exact w.nz a u e
  · rw [upd_ne nb]; exact w.gb
  · rw [upd_ne ng]; exact w.gg
  · rw [upd_ne nb]; exact w.hb
  · rw [upd_ne ng]; exact w.hg
/-- an object that is not among those that stand still is written -/
theorem Wd.put (w : Wd c b G H) {p : Addr} {o : HO} (gp : G p = none) (nb : p ≠ c.pb) (ng : p ≠ c.pg) : Wd c b G (upd H p o) := by
  refine ⟨fun a u e => ?_, w.nz, w.gb, w.gg, w.ne, by rw [upd_ne (Ne.symm nb)]; exact w.hb, by rw [upd_ne (Ne.symm ng)]; exact w.hg, w.bz⟩
  have ne : a ≠ p := fun z => by subst z; rw [gp] at e; cases e
  rw [upd_ne ne]
  exact w.sub a u e
/-- a new object that may still change -/
theorem Stp.newO (w : Wd c b G H) {p : Addr} {o : HO} (hp : H p = none) : Stp c G H G (upd H p o) ∧ Wd c b G (upd H p o) ∧ G p = none := by
  have gp : G p = none := w.gnone hp
  have nb : p ≠ c.pb := fun z => by rw [z] at hp; exact w.hbne hp
  have ng : p ≠ c.pg := fun z => by rw [z] at hp; exact w.hgne hp
  have k : ∀ a, H a ≠ none → a ≠ p := fun a h z => by rw [z] at h; exact h hp
  refine ⟨⟨Le.refl _, fun a u _ _ e => ?_, fun a h e => e, fun a h => ?_⟩, w.put gp nb ng, gp⟩
  · rw [upd_ne (ne_of_none e hp)]; exact .inl e
  · rw [upd_ne (k a h)]; exact h
/-- what may change is frozen -/
theorem Stp.freeze {H0 G0 : Hp} (s : Stp c G0 H0 G H) (w : Wd c b G H) {p : Addr} {o : HO} (hp : H p = some o) (h0 : H0 p = none) (gp : G p = none) (nb : p ≠ c.pb) (ng : p ≠ c.pg) (hz : nfz o = true := by rfl) : Stp c G0 H0 (upd G p o) H ∧ Wd c b (upd G p o) H := by
  refine ⟨⟨s.g.trans (Le.new gp), (fun a u n m e => by
    rcases s.h a u n m e with z | ⟨l, g, z⟩
    · exact .inl z
    · exact .inr ⟨l, Le.new gp _ _ g, z⟩), fun a h e => ?_, s.dm⟩, ⟨fun a u e => ?_, fun a u e => ?_, ?_, ?_, w.ne, w.hb, w.hg, w.bz⟩⟩
  · have : a ≠ p := fun z => by subst z; exact h h0
    rw [upd_ne this]; exact s.fr a h e
  · by_cases h : a = p
    · subst h
      rw [upd_same] at e
      exact .inl (hp.trans e)
    · rw [upd_ne h] at e
      exact w.sub a u e
  · by_cases h : a = p
    · subst h
      rw [upd_same] at e
      cases e
      exact hz
    · rw [upd_ne h] at e
      exact w.nz a u e
  · rw [upd_ne (Ne.symm nb)]; exact w.gb
  · rw [upd_ne (Ne.symm ng)]; exact w.gg
/-- an own object is written: seen from the entry -/
theorem Stp.put {H0 G0 : Hp} (s : Stp c G0 H0 G H) {p : Addr} {o : HO} (h0 : H0 p = none) : Stp c G0 H0 G (upd H p o) := by
  refine ⟨s.g, fun a u n m e => ?_, s.fr, fun a h => ?_⟩
  · rw [upd_ne (ne_of_none e h0)]; exact s.h a u n m e
  · have : a ≠ p := fun z => by subst z; exact h h0
    rw [upd_ne this]; exact s.dm a h
end
end Mr

set_option Elab.async false
set_option linter.all false
set_option maxRecDepth 100000
namespace Mr
open PySem PySem.Spec PyProof.Rows L2

structure Exn where
  nm : Str
  args : List D

inductive R (α : Type) where
  | ok (a : α) (b : Bag)
  | exc (e : Exn) (b : Bag)
  | stuck

def R.bind {α β : Type} (x : R α) (f : α → Bag → R β) : R β := match x with
  | .ok a b => f a b
  | .exc e b => .exc e b
  | .stuck => .stuck
@[simp] theorem R.bind_ok {α β : Type} (a : α) (b : Bag) (f : α → Bag → R β) : (R.ok a b).bind f = f a b := rfl
@[simp] theorem R.bind_exc {α β : Type} (e : Exn) (b : Bag) (f : α → Bag → R β) : (R.exc e b : R α).bind f = .exc e b := rfl
@[simp] theorem R.bind_stuck {α β : Type} (f : α → Bag → R β) : (R.stuck : R α).bind f = .stuck := rfl
def R.opt {α : Type} (o : Option α) (b : Bag) : R α := match o with
  | some a => .ok a b
  | none => .stuck
@[simp] theorem R.opt_some {α : Type} (a : α) (b : Bag) : R.opt (some a) b = .ok a b := rfl
@[simp] theorem R.opt_none {α : Type} (b : Bag) : R.opt (none : Option α) b = .stuck := rfl

/-- a slot: not yet stored; a datum that stands still; a list, a dict of this frame's alone -/
inductive Sl where
  | un
  | va (d : D)
  | ol (ds : List D)
  | oK (ks : List Key) (ds : List D)
  | oT (ks : List (List Key)) (ds : List D)
abbrev Ev := List Sl
def Sl.own : Sl → Bool
  | .un => false
  | .va _ => false
  | _ => true

abbrev ME := Ev → Bag → R D
abbrev MT := Ev → Bag → R Bool
abbrev MA := Ev → Bag → R (List D)

def LstV (c : MC) (H : Hp) (p : Addr) (vs : List V) : Prop := Rd H p (.lst vs) ∧ p ≠ c.pb ∧ p ≠ c.pg
theorem LstV.l {c : MC} {K : PySem.W.Frag} {H : Hp} {p : Addr} {vs : List V} (h : LstV c H p vs) : SqL K H p vs := .inl h.1

/-- a datum, or a list or a dict that may still change, at one level -/
def Vw (c : MC) (G H : Hp) : D → V → Prop
  | .lst ds, v => ∃ p vs, v = .ref p ∧ LstV c H p vs ∧ Reps c G ds vs
  | .dK ks ds, v => ∃ p vs, v = .ref p ∧ Rd H p (.dK (ks.zip vs)) ∧ ks.length = vs.length ∧ Reps c G ds vs ∧ p ≠ c.pb ∧ p ≠ c.pg
  | .dT ks ds, v => ∃ p vs, v = .ref p ∧ Rd H p (.dT (ks.zip vs)) ∧ ks.length = vs.length ∧ Reps c G ds vs ∧ p ≠ c.pb ∧ p ≠ c.pg
  | d, v => Rep c G d v

section
variable {c : MC} {b : Bag} {G H G' H' G0 H0 : Hp}
theorem Rep.vw (w : Wd c b G H) {d : D} {v : V} (r : Rep c G d v) : Vw c G H d v := by
  cases d with
  | lst ds =>
    unfold Rep at r
    obtain ⟨p, vs, e, s, r⟩ := r
    exact ⟨p, vs, e, ⟨w.rd s, w.notb s⟩, r⟩
  | dK ks ds =>
    unfold Rep at r
    obtain ⟨p, vs, e, s, l, r⟩ := r
    exact ⟨p, vs, e, w.rd s, l, r, w.notb s⟩
  | dT ks ds =>
    unfold Rep at r
    obtain ⟨p, vs, e, s, l, r⟩ := r
    exact ⟨p, vs, e, w.rd s, l, r, w.notb s⟩
  | _ => exact r
theorem rd_stp (s : Stp c G H G' H') {a : Addr} {u : HO} (nb : a ≠ c.pb) (ng : a ≠ c.pg) (e : Rd H a u) : Rd H' a u := by
  rcases e with e | ⟨o, e⟩
  · rcases s.h _ _ nb ng e with z | ⟨_, _, o, z⟩
    · exact .inl z
    · exact .inr ⟨o, z⟩
  · rcases s.h _ _ nb ng e with z | ⟨l, _⟩
    · exact .inr ⟨o, z⟩
    · cases l
theorem LstV.mono (s : Stp c G H G' H') {p : Addr} {vs : List V} (h : LstV c H p vs) : LstV c H' p vs := by
  exact ⟨rd_stp s h.2.1 h.2.2 h.1, h.2⟩
theorem Vw.mono (s : Stp c G H G' H') {d : D} {v : V} (r : Vw c G H d v) : Vw c G' H' d v := by
  cases d with
  | lst ds =>
    obtain ⟨p, vs, e, q, r⟩ := r
    exact ⟨p, vs, e, q.mono s, r.mono s.g⟩
  | dK ks ds =>
    obtain ⟨p, vs, e, q, l, r, nb, ng⟩ := r
    exact ⟨p, vs, e, rd_stp s nb ng q, l, r.mono s.g, nb, ng⟩
  | dT ks ds =>
    obtain ⟨p, vs, e, q, l, r, nb, ng⟩ := r
    exact ⟨p, vs, e, rd_stp s nb ng q, l, r.mono s.g, nb, ng⟩
  | non => exact Rep.mono (c := c) s.g .non v r
  | bl x => exact Rep.mono (c := c) s.g (.bl x) v r
  | int x => exact Rep.mono (c := c) s.g (.int x) v r
  | str x => exact Rep.mono (c := c) s.g (.str x) v r
  | tup ds => exact Rep.mono (c := c) s.g (.tup ds) v r
  | kt ds => exact Rep.mono (c := c) s.g (.kt ds) v r
  | ob n ns ds => exact Rep.mono (c := c) s.g (.ob n ns ds) v r
  | bag => exact Rep.mono (c := c) s.g .bag v r

/-- slots -/
def SlOk (c : MC) (H0 G H : Hp) : Sl → Option V → Prop
  | .un, _ => True
  | .va d, v => ∃ x, v = some x ∧ Rep c G d x
  | .ol ds, v => ∃ p vs, v = some (.ref p) ∧ H p = some (.lst vs) ∧ G p = none ∧ H0 p = none ∧ Reps c G ds vs
  | .oK ks ds, v => ∃ p vs, v = some (.ref p) ∧ H p = some (.dK (ks.zip vs)) ∧ ks.length = vs.length ∧ G p = none ∧ H0 p = none ∧ Reps c G ds vs
  | .oT ks ds, v => ∃ p vs, v = some (.ref p) ∧ H p = some (.dT (ks.zip vs)) ∧ ks.length = vs.length ∧ G p = none ∧ H0 p = none ∧ Reps c G ds vs
structure EvOk (c : MC) (H0 G H : Hp) (env : Ev) (σ : L2.St) : Prop where
  len : env.length = σ.length
  at_ : ∀ (i : Nat) (s : Sl), env[i]? = some s → ∃ v, σ[i]? = some v ∧ SlOk c H0 G H s v
  dis : ∀ (i j : Nat) (si sj : Sl) (p : Addr), i ≠ j → env[i]? = some si → env[j]? = some sj → si.own = true → sj.own = true → σ[i]? = some (some (V.ref p)) → σ[j]? ≠ some (some (V.ref p))
  bb : H0 c.pb ≠ none
  bg : H0 c.pg ≠ none
theorem ne_h0 {a p : Addr} (h : H0 a ≠ none) (n : H0 p = none) : p ≠ a := fun z => by
  subst z
  exact h n
theorem SlOk.step (bb : H0 c.pb ≠ none) (bg : H0 c.pg ≠ none) (s : Stp c G H G' H') {x : Sl} {v : Option V} (h : SlOk c H0 G H x v) : SlOk c H0 G' H' x v := by
  cases x with
  | un => exact True.intro
  | va d =>
    obtain ⟨y, e, r⟩ := h
    exact ⟨y, e, r.mono s.g d y⟩
  | ol ds =>
    obtain ⟨p, vs, e, hp, gp, h0, r⟩ := h
    exact ⟨p, vs, e, s.hn (ne_h0 bb h0) (ne_h0 bg h0) gp hp, s.fr p (by rw [hp]; exact fun z => nomatch z) gp, h0, r.mono s.g⟩
  | oK ks ds =>
    obtain ⟨p, vs, e, hp, l, gp, h0, r⟩ := h
    exact ⟨p, vs, e, s.hn (ne_h0 bb h0) (ne_h0 bg h0) gp hp, l, s.fr p (by rw [hp]; exact fun z => nomatch z) gp, h0, r.mono s.g⟩
  | oT ks ds =>
    obtain ⟨p, vs, e, hp, l, gp, h0, r⟩ := h
    exact ⟨p, vs, e, s.hn (ne_h0 bb h0) (ne_h0 bg h0) gp hp, l, s.fr p (by rw [hp]; exact fun z => nomatch z) gp, h0, r.mono s.g⟩
theorem EvOk.step {env : Ev} {σ : L2.St} (h : EvOk c H0 G H env σ) (s : Stp c G H G' H') : EvOk c H0 G' H' env σ :=
  ⟨h.len, fun i x e => by
    obtain ⟨v, e1, e2⟩ := h.at_ i x e
    exact ⟨v, e1, e2.step h.bb h.bg s⟩, h.dis, h.bb, h.bg⟩
end

/-- an exception -/
def ExOk (c : MC) (G H : Hp) (e : Exn) (cls : Value) (dd : Option Addr) : Prop :=
  ∃ C, c.mg e.nm = some (.ref C) ∧ cls = .ref C ∧ ((e.args = [] ∧ dd = none) ∨ ∃ (d : Addr) (ns : List Str) (vs : List V), dd = some d ∧ H d = some (.xd (ns.zip vs)) ∧ ns.length = vs.length ∧ Reps c G e.args vs)

/-! ### readings -/
def PstX (c : MC) (E : XK) (G H : Hp) (e : Exn) (b : Bag) : Prop :=
  ∀ cls dd G' H', Stp c G H G' H' → Wd c b G' H' → ExOk c G' H' e cls dd → E cls dd H'
/-- what is wanted of an evaluation, by what it hands on (P: how the value stands) -/
def PstG {α β : Type} (c : MC) (E : XK) (G H : Hp) (P : Hp → Hp → α → β → Prop) (Q : β → Hp → Prop) : R α → Prop
  | .ok a b => ∀ v G' H', Stp c G H G' H' → Wd c b G' H' → P G' H' a v → Q v H'
  | .exc e b => PstX c E G H e b
  | .stuck => False
/-- a value that stands still; a view; a new list; a truth; arguments -/
abbrev pM (c : MC) : Hp → Hp → D → V → Prop := fun G _ d v => Rep c G d v
abbrev pV (c : MC) : Hp → Hp → D → V → Prop := fun G H d v => Vw c G H d v
abbrev pT : Hp → Hp → Bool → Bool → Prop := fun _ _ a v => v = a
abbrev pA (c : MC) : Hp → Hp → List D → List V → Prop := fun G _ ds vs => Reps c G ds vs
/-- new: it may still change -/
def pF (c : MC) (H1 : Hp) : Hp → Hp → D → V → Prop := fun G H d v => match d with
  | .lst ds => ∃ p vs, v = .ref p ∧ H p = some (.lst vs) ∧ G p = none ∧ H1 p = none ∧ Reps c G ds vs
  | .dK ks ds => ∃ p vs, v = .ref p ∧ H p = some (.dK (ks.zip vs)) ∧ ks.length = vs.length ∧ G p = none ∧ H1 p = none ∧ Reps c G ds vs
  | .dT ks ds => ∃ p vs, v = .ref p ∧ H p = some (.dT (ks.zip vs)) ∧ ks.length = vs.length ∧ G p = none ∧ H1 p = none ∧ Reps c G ds vs
  | _ => False

abbrev cx (K : PySem.W.Frag) (mg : Str → Option Value) (pb pg : Addr) : MC := ⟨K, mg, pb, pg⟩
def tM (K : PySem.W.Frag) (mg : Str → Option Value) (E : XK) (m : ME) : TE := fun σ H Q => ∃ pb pg H0 env b G, Wd (cx K mg pb pg) b G H ∧ EvOk (cx K mg pb pg) H0 G H env σ ∧ PstG (cx K mg pb pg) E G H (pM (cx K mg pb pg)) Q (m env b)
def tV (K : PySem.W.Frag) (mg : Str → Option Value) (E : XK) (m : ME) : TE := fun σ H Q => ∃ pb pg H0 env b G, Wd (cx K mg pb pg) b G H ∧ EvOk (cx K mg pb pg) H0 G H env σ ∧ PstG (cx K mg pb pg) E G H (pV (cx K mg pb pg)) Q (m env b)
def tF (K : PySem.W.Frag) (mg : Str → Option Value) (E : XK) (m : ME) : TE := fun σ H Q => ∃ pb pg H0 env b G, Wd (cx K mg pb pg) b G H ∧ EvOk (cx K mg pb pg) H0 G H env σ ∧ PstG (cx K mg pb pg) E G H (pF (cx K mg pb pg) H) Q (m env b)
def tT (K : PySem.W.Frag) (mg : Str → Option Value) (E : XK) (m : MT) : TT := fun σ H Q => ∃ pb pg H0 env b G, Wd (cx K mg pb pg) b G H ∧ EvOk (cx K mg pb pg) H0 G H env σ ∧ PstG (cx K mg pb pg) E G H pT Q (m env b)
def tA (K : PySem.W.Frag) (mg : Str → Option Value) (E : XK) (m : MA) : TA := fun σ H Q => ∃ pb pg H0 env b G, Wd (cx K mg pb pg) b G H ∧ EvOk (cx K mg pb pg) H0 G H env σ ∧ PstG (cx K mg pb pg) E G H (pA (cx K mg pb pg)) Q (m env b)

theorem PE.imp {X : Cx} {e : Expr} {t t' : TE} (h : PE X e t) (k : ∀ σ H Q, t' σ H Q → t σ H Q) : PE X e t' := ⟨fun pins s σ H Q I hq => h.run pins s σ H Q I (k _ _ _ hq)⟩
theorem PT.imp {X : Cx} {e : Expr} {t t' : TT} (h : PT X e t) (k : ∀ σ H Q, t' σ H Q → t σ H Q) : PT X e t' := ⟨fun pins s σ H Q I hq => h.run pins s σ H Q I (k _ _ _ hq)⟩
theorem PW.imp {X : Cx} {e : Expr} {t t' : TT} (h : PW X e t) (k : ∀ σ H Q, t' σ H Q → t σ H Q) : PW X e t' := ⟨fun wh pins s σ H Q I hq => h.run wh pins s σ H Q I (k _ _ _ hq)⟩
theorem PA.imp {X : Cx} {e : List Expr} {t t' : TA} (h : PA X e t) (k : ∀ σ H Q, t' σ H Q → t σ H Q) : PA X e t' := ⟨fun pos pins s σ H Q I hq => h.run pos pins s σ H Q I (k _ _ _ hq)⟩
theorem PS.imp {X : Cx} {e : Stmt} {t t' : TS} (h : PS X e t) (k : ∀ D σ H, t' D σ H → t D σ H) : PS X e t' := ⟨fun pins s σ H D I hq => h.run pins s σ H D I (k _ _ _ hq)⟩
theorem PSs.imp {X : Cx} {e : List Stmt} {t t' : TS} (h : PSs X e t) (k : ∀ D σ H, t' D σ H → t D σ H) : PSs X e t' := ⟨fun pins s σ H D I hq => h.run pins s σ H D I (k _ _ _ hq)⟩

abbrev DE (X : Cx) (E : XK) (e : Expr) (m : ME) : Prop := PE X e (tM X.K X.mg E m)
abbrev DV (X : Cx) (E : XK) (e : Expr) (m : ME) : Prop := PE X e (tV X.K X.mg E m)
abbrev DF (X : Cx) (E : XK) (e : Expr) (m : ME) : Prop := PE X e (tF X.K X.mg E m)
abbrev DT (X : Cx) (E : XK) (e : Expr) (m : MT) : Prop := PT X e (tT X.K X.mg E m)
abbrev DW (X : Cx) (E : XK) (e : Expr) (m : MT) : Prop := PW X e (tT X.K X.mg E m)
abbrev DA (X : Cx) (E : XK) (es : List Expr) (m : MA) : Prop := PA X es (tA X.K X.mg E m)

theorem PstX.of {c : MC} {E : XK} {G H G1 H1 : Hp} {e : Exn} {b : Bag} (s : Stp c G H G1 H1) (h : PstX c E G H e b) : PstX c E G1 H1 e b := fun cls dd G' H' s' w r => h cls dd G' H' (s.trans s') w r
/-- what is wanted, from a later state (P does not look at where it began) -/
theorem PstG.of {α β : Type} {c : MC} {E : XK} {G H G1 H1 : Hp} {P : Hp → Hp → α → β → Prop} {Q : β → Hp → Prop} (s : Stp c G H G1 H1) : ∀ {r : R α}, PstG c E G H P Q r → PstG c E G1 H1 P Q r
  | .ok _ _, h => fun v G' H' s' w p => h v G' H' (s.trans s') w p
  | .exc _ _, h => PstX.of s h
  | .stuck, h => h
/-- one part, then the rest -/
theorem PstG.bind {α β γ δ : Type} {c : MC} {E : XK} {G H : Hp} {P : Hp → Hp → α → β → Prop} {P2 : Hp → Hp → γ → δ → Prop} {Q : δ → Hp → Prop} {x : R α} {f : α → Bag → R γ} {Q' : β → Hp → Prop}
    (h : PstG c E G H P2 Q (x.bind f)) (k : ∀ a b v G' H', Stp c G H G' H' → Wd c b G' H' → P G' H' a v → PstG c E G' H' P2 Q (f a b) → Q' v H') : PstG c E G H P Q' x := by
  cases x with
  | ok a b => exact fun v G' H' s w p => k a b v G' H' s w p (PstG.of s h)
  | exc e b => exact h
  | stuck => exact h

section
variable {X : Cx} {E : XK} {e : Expr} {m : ME}
theorem DE.v (h : DE X E e m) : DV X E e m := PE.imp h fun σ H Q ⟨pb, pg, H0, env, b, G, w, ev, q⟩ => ⟨pb, pg, H0, env, b, G, w, ev, by
  cases hm : m env b with
  | ok a b1 => rw [hm] at q; exact fun v G' H' s w p => q v G' H' s w (Rep.vw w p)
  | exc e b1 => rw [hm] at q; exact q
  | stuck => rw [hm] at q; exact q⟩
theorem DF.d (h : DF X E e m) : DE X E e m := PE.imp h fun σ H Q ⟨pb, pg, H0, env, b, G, w, ev, q⟩ => ⟨pb, pg, H0, env, b, G, w, ev, by
  cases hm : m env b with
  | ok a b1 =>
    rw [hm] at q
    refine fun v G' H' s w1 p => ?_
    cases a with
    | lst ds =>
      obtain ⟨p, vs, rfl, hp, gp, h0, r⟩ := p
      obtain ⟨s2, w2⟩ := s.freeze w1 hp h0 gp (fun z => by rw [z] at h0; exact w.hbne h0) (fun z => by rw [z] at h0; exact w.hgne h0)
      refine q _ _ _ s2 w2 ?_
      show Rep _ _ (.lst ds) _
      unfold Rep
      exact ⟨p, vs, rfl, upd_same, r.mono (Le.new gp)⟩
    | dK ks ds =>
      obtain ⟨p, vs, rfl, hp, hl, gp, h0, r⟩ := p
      obtain ⟨s2, w2⟩ := s.freeze w1 hp h0 gp (fun z => by rw [z] at h0; exact w.hbne h0) (fun z => by rw [z] at h0; exact w.hgne h0)
      refine q _ _ _ s2 w2 ?_
      show Rep _ _ (.dK ks ds) _
      unfold Rep
      exact ⟨p, vs, rfl, upd_same, hl, r.mono (Le.new gp)⟩
    | dT ks ds =>
      obtain ⟨p, vs, rfl, hp, hl, gp, h0, r⟩ := p
      obtain ⟨s2, w2⟩ := s.freeze w1 hp h0 gp (fun z => by rw [z] at h0; exact w.hbne h0) (fun z => by rw [z] at h0; exact w.hgne h0)
      refine q _ _ _ s2 w2 ?_
      show Rep _ _ (.dT ks ds) _
      unfold Rep
      exact ⟨p, vs, rfl, upd_same, hl, r.mono (Le.new gp)⟩
    | _ => exact p.elim
  | exc e b1 => rw [hm] at q; exact q
  | stuck => rw [hm] at q; exact q⟩
theorem DF.v (h : DF X E e m) : DV X E e m := DE.v (DF.d h)
end
end Mr

set_option Elab.async false
set_option linter.all false
set_option maxRecDepth 100000
namespace Mr
open PySem PySem.Spec L2

/-! ### mirrors of expressions -/
def mC (d : D) : ME := fun _ b => .ok d b
def mVar (i : Nat) : ME := fun env b => match env[i]? with
  | some (.va d) => .ok d b
  | _ => .stuck
def mOwn (i : Nat) : ME := fun env b => match env[i]? with
  | some (.va d) => .ok d b
  | some (.ol ds) => .ok (.lst ds) b
  | some (.oK ks ds) => .ok (.dK ks ds) b
  | some (.oT ks ds) => .ok (.dT ks ds) b
  | _ => .stuck
def m1 (g : D → Option D) (ma : ME) : ME := fun env b => (ma env b).bind fun x b => R.opt (g x) b
def m2 (g : D → D → Option D) (ma mb : ME) : ME := fun env b => (ma env b).bind fun x b => (mb env b).bind fun y b => R.opt (g x y) b
def mNil : MA := fun _ b => .ok [] b
def mCons (ma : ME) (mr : MA) : MA := fun env b => (ma env b).bind fun x b => (mr env b).bind fun xs b => .ok (x :: xs) b
/-- a built-in, by its arguments -/
def mB (g : List D → Option D) (ma : MA) : ME := fun env b => (ma env b).bind fun xs b => R.opt (g xs) b
def asB : D → Option Bool
  | .bl b => some b
  | _ => none
@[simp] theorem asB_bl (b : Bool) : asB (.bl b) = some b := rfl
/-- tests -/
def mT (ma : ME) : MT := fun env b => (ma env b).bind fun x b => R.opt (asB x) b
def mAndT (a c : MT) : MT := fun env b => (a env b).bind fun x b => if x = true then c env b else .ok false b
def mOrT (a c : MT) : MT := fun env b => (a env b).bind fun x b => if x = true then .ok true b else c env b
def mNotT (a : MT) : MT := fun env b => (a env b).bind fun x b => .ok (!x) b
def mAnd (a c : ME) : ME := fun env b => (a env b).bind fun x b => match x with
  | .bl true => c env b
  | .bl false => .ok (.bl false) b
  | _ => .stuck
def mOr (a c : ME) : ME := fun env b => (a env b).bind fun x b => match x with
  | .bl true => .ok (.bl true) b
  | .bl false => c env b
  | _ => .stuck
def mNot (a : ME) : ME := fun env b => (a env b).bind fun x b => match x with
  | .bl k => .ok (.bl (!k)) b
  | _ => .stuck
def mIf (t : MT) (a c : ME) : ME := fun env b => (t env b).bind fun x b => if x = true then a env b else c env b
/-- a < b < c -/
def mCh (g g' : D → D → Option D) (ma mb mc : ME) : ME := fun env b => (ma env b).bind fun x b => (mb env b).bind fun y b => match g x y with
  | some (.bl true) => (mc env b).bind fun z b => R.opt (g' y z) b
  | some (.bl false) => .ok (.bl false) b
  | _ => .stuck

/-- views of arguments -/
def Vws (c : MC) (G H : Hp) : List D → List V → Prop
  | [], vs => vs = []
  | d :: ds, vs => ∃ v ws, vs = v :: ws ∧ Vw c G H d v ∧ Vws c G H ds ws
abbrev pW (c : MC) : Hp → Hp → List D → List V → Prop := fun G H ds vs => Vws c G H ds vs
def tW (K : PySem.W.Frag) (mg : Str → Option Value) (E : XK) (m : MA) : TA := fun σ H Q => ∃ pb pg H0 env b G, Wd (cx K mg pb pg) b G H ∧ EvOk (cx K mg pb pg) H0 G H env σ ∧ PstG (cx K mg pb pg) E G H (pW (cx K mg pb pg)) Q (m env b)
abbrev DAv (X : Cx) (E : XK) (es : List Expr) (m : MA) : Prop := PA X es (tW X.K X.mg E m)

/-- rules on values -/
def rD2 (K : PySem.W.Frag) (mg : Str → Option Value) (g : D → D → Option D) : R2 := fun x y H Q => ∃ pb pg b G dx dy d, Wd (cx K mg pb pg) b G H ∧ Vw (cx K mg pb pg) G H dx x ∧ Vw (cx K mg pb pg) G H dy y ∧ g dx dy = some d ∧
  ∀ v G' H', Stp (cx K mg pb pg) G H G' H' → Wd (cx K mg pb pg) b G' H' → Rep (cx K mg pb pg) G' d v → Q v H'
def rD1 (K : PySem.W.Frag) (mg : Str → Option Value) (g : D → Option D) : V → Hp → VK → Prop := fun x H Q => ∃ pb pg b G dx d, Wd (cx K mg pb pg) b G H ∧ Vw (cx K mg pb pg) G H dx x ∧ g dx = some d ∧
  ∀ v G' H', Stp (cx K mg pb pg) G H G' H' → Wd (cx K mg pb pg) b G' H' → Rep (cx K mg pb pg) G' d v → Q v H'
def rDC (K : PySem.W.Frag) (mg : Str → Option Value) (g : List D → Option D) : List V → Hp → VK → Prop := fun xs H Q => ∃ pb pg b G dxs d, Wd (cx K mg pb pg) b G H ∧ Vws (cx K mg pb pg) G H dxs xs ∧ g dxs = some d ∧
  ∀ v G' H', Stp (cx K mg pb pg) G H G' H' → Wd (cx K mg pb pg) b G' H' → Rep (cx K mg pb pg) G' d v → Q v H'
/-- the result is new -/
def rFC (K : PySem.W.Frag) (mg : Str → Option Value) (g : List D → Option D) : List V → Hp → VK → Prop := fun xs H Q => ∃ pb pg b G dxs d, Wd (cx K mg pb pg) b G H ∧ Vws (cx K mg pb pg) G H dxs xs ∧ g dxs = some d ∧
  ∀ v G' H', Stp (cx K mg pb pg) G H G' H' → Wd (cx K mg pb pg) b G' H' → pF (cx K mg pb pg) H G' H' d v → Q v H'
abbrev OpD (X : Cx) (f : Value → Value → Sem Value) (g : D → D → Option D) : Prop := OpR X f (rD2 X.K X.mg g)
abbrev UnD (X : Cx) (f : Value → Sem Value) (g : D → Option D) : Prop := UnR X f (rD1 X.K X.mg g)
abbrev CallD (X : Cx) (f : Value) (g : List D → Option D) : Prop := CallR X f (rDC X.K X.mg g)
abbrev CallF (X : Cx) (f : Value) (g : List D → Option D) : Prop := CallR X f (rFC X.K X.mg g)

section
variable {X : Cx} {E : XK} {e a b c : Expr} {es : List Expr} {ma mb mc : ME} {mr : MA} {mt mu : MT} {pos : Pos}

theorem Vws.mono {c : MC} {G H G' H' : Hp} (s : Stp c G H G' H') : ∀ {ds : List D} {vs : List V}, Vws c G H ds vs → Vws c G' H' ds vs
  | [], _, h => h
  | d :: ds, _, ⟨v, ws, e, h1, h2⟩ => ⟨v, ws, e, h1.mono s, Vws.mono s h2⟩

theorem de_c {d : D} {v : V} {t : TE} (h : PE X e (tC v)) (r : ∀ pb pg G, Rep (cx X.K X.mg pb pg) G d v) : DE X E e (mC d) := PE.imp h fun σ H Q ⟨pb, pg, H0, env, b, G, w, ev, q⟩ => q v G H (Stp.refl _ _ _) w (r pb pg G)
theorem de_int {i : Int} {j : Nat} : DE X E (.Constant (.int i) j pos) (mC (.int i)) := de_c (t := tC (.int i)) pe_int fun _ _ _ => rfl
theorem de_bl {i : Bool} {j : Nat} : DE X E (.Constant (.bool i) j pos) (mC (.bl i)) := de_c (t := tC (.int 0)) pe_bl fun _ _ _ => rfl
theorem de_non {j : Nat} : DE X E (.Constant .none j pos) (mC .non) := de_c (t := tC (.int 0)) pe_non fun _ _ _ => rfl
theorem de_str {x : Str} {j : Nat} : DE X E (.Constant (.str x) j pos) (mC (.str x)) := de_c (t := tC (.int 0)) pe_str fun _ _ _ => rfl
/-- a constant of the module: an int -/
theorem de_gint {x : Str} {i : Int} {t : Tok} (hg : Gl X x) (hm : X.mg x = some (.int i t)) (hd : (x == ("__debug__" : Str)) = false := by decide) : DE X E (.Name x pos) (mC (.int i)) :=
  de_c (t := tC (.int 0)) (pe_glob (v := .int i) hg hm ⟨t, rfl⟩ hd) fun _ _ _ => rfl
theorem de_gstr {x z : Str} {t : Tok} (hg : Gl X x) (hm : X.mg x = some (.str z t)) (hd : (x == ("__debug__" : Str)) = false := by decide) : DE X E (.Name x pos) (mC (.str z)) :=
  de_c (t := tC (.int 0)) (pe_glob (v := .str z) hg hm ⟨t, rfl⟩ hd) fun _ _ _ => rfl
theorem de_var (i : Nat) {x : Str} (hN : X.N[i]? = some x := by rfl) (hv : Vis X.env.scope x := by first | exact Or.inl rfl | exact Or.inr (Or.inl rfl) | exact Or.inr (Or.inr rfl)) (hd : (x == ("__debug__" : Str)) = false := by decide)
    (hcd : (x == ("__classdict__" : Str)) = false := by decide) : DE X E (.Name x pos) (mVar i) := PE.imp (pe_var hN hv hd hcd) fun σ H Q ⟨pb, pg, H0, env, b, G, w, ev, q⟩ => by
  unfold mVar at q
  split at q
  · rename_i d hd'
    obtain ⟨v, e1, x, rfl, r⟩ := ev.at_ _ _ hd'
    exact ⟨x, e1, q x G H (Stp.refl _ _ _) w r⟩
  · exact q.elim
theorem dv_own (i : Nat) {x : Str} (hN : X.N[i]? = some x := by rfl) (hv : Vis X.env.scope x := by first | exact Or.inl rfl | exact Or.inr (Or.inl rfl) | exact Or.inr (Or.inr rfl)) (hd : (x == ("__debug__" : Str)) = false := by decide)
    (hcd : (x == ("__classdict__" : Str)) = false := by decide) : DV X E (.Name x pos) (mOwn i) := PE.imp (pe_var hN hv hd hcd) fun σ H Q ⟨pb, pg, H0, env, b, G, w, ev, q⟩ => by
  unfold mOwn at q
  split at q
  · rename_i d hd'
    obtain ⟨v, e1, x, rfl, r⟩ := ev.at_ _ _ hd'
    exact ⟨x, e1, q x G H (Stp.refl _ _ _) w (Rep.vw w r)⟩
  · rename_i ds hd'
    obtain ⟨v, e1, p, vs, rfl, hp, gp, h0, r⟩ := ev.at_ _ _ hd'
    exact ⟨.ref p, e1, q _ G H (Stp.refl _ _ _) w ⟨p, vs, rfl, ⟨.inl hp, ne_h0 ev.bb h0, ne_h0 ev.bg h0⟩, r⟩⟩
  · rename_i ks ds hd'
    obtain ⟨v, e1, p, vs, rfl, hp, hl, gp, h0, r⟩ := ev.at_ _ _ hd'
    exact ⟨.ref p, e1, q _ G H (Stp.refl _ _ _) w ⟨p, vs, rfl, .inl hp, hl, r, ne_h0 ev.bb h0, ne_h0 ev.bg h0⟩⟩
  · rename_i ks ds hd'
    obtain ⟨v, e1, p, vs, rfl, hp, hl, gp, h0, r⟩ := ev.at_ _ _ hd'
    exact ⟨.ref p, e1, q _ G H (Stp.refl _ _ _) w ⟨p, vs, rfl, .inl hp, hl, r, ne_h0 ev.bb h0, ne_h0 ev.bg h0⟩⟩
  · exact q.elim

theorem read2 {K : PySem.W.Frag} {mg : Str → Option Value} {g : D → D → Option D} {σ : L2.St} {H : Hp} {Q : VK} (h : tM K mg E (m2 g ma mb) σ H Q) : tOp (rD2 K mg g) (tV K mg E ma) (tV K mg E mb) σ H Q := by
  obtain ⟨pb, pg, H0, env, b, G, w, ev, q⟩ := h
  refine ⟨pb, pg, H0, env, b, G, w, ev, PstG.bind q fun a1 b1 v1 G1 H1 s1 w1 p1 q1 => ?_⟩
  refine ⟨pb, pg, H0, env, b1, G1, w1, ev.step s1, PstG.bind q1 fun a2 b2 v2 G2 H2 s2 w2 p2 q2 => ?_⟩
  cases hg : g a1 a2 with
  | none => rw [hg] at q2; exact q2.elim
  | some d => rw [hg] at q2; exact ⟨pb, pg, b2, G2, a1, a2, d, w2, p1.mono s2, p2, hg, q2⟩
theorem de_op {op : Operator} {g : D → D → Option D} (ho : OpD X (binaryOp op) g) (ha : DV X E a ma) (hb : DV X E b mb) : DE X E (.BinOp a op b pos) (m2 g ma mb) :=
  PE.imp (pe_op ho ha hb) fun _ _ _ h => read2 h
theorem de_cmp {op : CmpOp} {g : D → D → Option D} (ho : OpD X (compareOp op) g) (ha : DV X E a ma) (hb : DV X E b mb) (hm : behindInMarks op b = false := by first | exact nobehind _ (by decide) (by decide) | rfl) : DE X E (.Compare a [op] [b] pos) (m2 g ma mb) :=
  PE.imp (pe_cmpR ho ha hb hm) fun _ _ _ h => read2 h
theorem readT {K : PySem.W.Frag} {mg : Str → Option Value} {σ : L2.St} {H : Hp} {Q : Bool → Hp → Prop} (h : tT K mg E (mT ma) σ H Q) : tM K mg E ma σ H fun x H' => ∃ k, x = .bl k ∧ Q k H' := by
  obtain ⟨pb, pg, H0, env, b, G, w, ev, q⟩ := h
  refine ⟨pb, pg, H0, env, b, G, w, ev, PstG.bind q fun a1 b1 v1 G1 H1 s1 w1 p1 q1 => ?_⟩
  cases a1 with
  | bl k => exact ⟨k, p1, q1 k G1 H1 (Stp.refl _ _ _) w1 rfl⟩
  | _ => exact q1.elim
theorem dt_cmp {op : CmpOp} {g : D → D → Option D} (ho : OpD X (compareOp op) g) (ha : DV X E a ma) (hb : DV X E b mb) (hm : behindInMarks op b = false := by first | exact nobehind _ (by decide) (by decide) | rfl) : DT X E (.Compare a [op] [b] pos) (mT (m2 g ma mb)) :=
  PT.imp (pt_cmpR ho ha hb hm) fun _ _ _ h => read2 (readT h)
theorem dt_val (ha : DE X E e ma) (he : ∀ whole, isTrue e X.env whole = (do let v ← whole; standAt e.pos; holding [v] (truthy v)) := by intro _; rfl) : DT X E e (mT ma) :=
  PT.imp (pt_val ha he) fun _ _ _ h => readT h
theorem dw_and1 (ha : DT X E a mt) : DW X E (.BoolOp .And [a] pos) mt := pw_and1 ha
theorem dw_or1 (ha : DT X E a mt) : DW X E (.BoolOp .Or [a] pos) mt := pw_or1 ha
theorem dw_and {rest : List Expr} (ha : DT X E a mt) (hb : DW X E (.BoolOp .And (b :: rest) pos) mu) : DW X E (.BoolOp .And (a :: b :: rest) pos) (mAndT mt mu) :=
  PW.imp (pw_and ha hb) fun σ H Q ⟨pb, pg, H0, env, b, G, w, ev, q⟩ => ⟨pb, pg, H0, env, b, G, w, ev, PstG.bind q fun a1 b1 v1 G1 H1 s1 w1 p1 q1 => by
    cases (show v1 = a1 from p1)
    cases a1 with
    | true => rw [if_pos rfl] at q1 ⊢; exact ⟨pb, pg, H0, env, b1, G1, w1, ev.step s1, q1⟩
    | false => rw [if_neg Bool.false_ne_true] at q1 ⊢; exact q1 false G1 H1 (Stp.refl _ _ _) w1 rfl⟩
theorem dw_or {rest : List Expr} (ha : DT X E a mt) (hb : DW X E (.BoolOp .Or (b :: rest) pos) mu) : DW X E (.BoolOp .Or (a :: b :: rest) pos) (mOrT mt mu) :=
  PW.imp (pw_or ha hb) fun σ H Q ⟨pb, pg, H0, env, b, G, w, ev, q⟩ => ⟨pb, pg, H0, env, b, G, w, ev, PstG.bind q fun a1 b1 v1 G1 H1 s1 w1 p1 q1 => by
    cases (show v1 = a1 from p1)
    cases a1 with
    | false => rw [if_neg Bool.false_ne_true] at q1 ⊢; exact ⟨pb, pg, H0, env, b1, G1, w1, ev.step s1, q1⟩
    | true => rw [if_pos rfl] at q1 ⊢; exact q1 true G1 H1 (Stp.refl _ _ _) w1 rfl⟩
theorem dw_t (h : DW X E e mt) : DT X E e mt := h.pt
theorem dt_not (ha : DT X E a mt) : DT X E (.UnaryOp .Not a pos) (mNotT mt) :=
  PT.imp (pt_not ha) fun σ H Q ⟨pb, pg, H0, env, b, G, w, ev, q⟩ => ⟨pb, pg, H0, env, b, G, w, ev, PstG.bind q fun a1 b1 v1 G1 H1 s1 w1 p1 q1 => by
    cases (show v1 = a1 from p1)
    exact q1 _ G1 H1 (Stp.refl _ _ _) w1 rfl⟩
theorem de_and {rest : List Expr} (ha : DE X E a ma) (hb : DE X E (.BoolOp .And (b :: rest) pos) mb) : DE X E (.BoolOp .And (a :: b :: rest) pos) (mAnd ma mb) :=
  PE.imp (pe_and ha hb) fun σ H Q ⟨pb, pg, H0, env, b, G, w, ev, q⟩ => ⟨pb, pg, H0, env, b, G, w, ev, PstG.bind q fun a1 b1 v1 G1 H1 s1 w1 p1 q1 => by
    cases a1 with
    | bl k =>
      refine ⟨k, p1, ?_⟩
      cases k with
      | true => rw [if_pos rfl]; exact ⟨pb, pg, H0, env, b1, G1, w1, ev.step s1, q1⟩
      | false => rw [if_neg Bool.false_ne_true]; exact q1 (.bl false) G1 H1 (Stp.refl _ _ _) w1 rfl
    | _ => exact q1.elim⟩
theorem de_or {rest : List Expr} (ha : DE X E a ma) (hb : DE X E (.BoolOp .Or (b :: rest) pos) mb) : DE X E (.BoolOp .Or (a :: b :: rest) pos) (mOr ma mb) :=
  PE.imp (pe_or ha hb) fun σ H Q ⟨pb, pg, H0, env, b, G, w, ev, q⟩ => ⟨pb, pg, H0, env, b, G, w, ev, PstG.bind q fun a1 b1 v1 G1 H1 s1 w1 p1 q1 => by
    cases a1 with
    | bl k =>
      refine ⟨k, p1, ?_⟩
      cases k with
      | false => rw [if_neg Bool.false_ne_true]; exact ⟨pb, pg, H0, env, b1, G1, w1, ev.step s1, q1⟩
      | true => rw [if_pos rfl]; exact q1 (.bl true) G1 H1 (Stp.refl _ _ _) w1 rfl
    | _ => exact q1.elim⟩
theorem de_one {op : BoolOp} (h : DE X E a ma) : DE X E (.BoolOp op [a] pos) ma := pe_one h
theorem de_not (ha : DE X E a ma) : DE X E (.UnaryOp .Not a pos) (mNot ma) :=
  PE.imp (pe_not ha) fun σ H Q ⟨pb, pg, H0, env, b, G, w, ev, q⟩ => ⟨pb, pg, H0, env, b, G, w, ev, PstG.bind q fun a1 b1 v1 G1 H1 s1 w1 p1 q1 => by
    cases a1 with
    | bl k => exact ⟨k, p1, q1 _ G1 H1 (Stp.refl _ _ _) w1 rfl⟩
    | _ => exact q1.elim⟩
theorem de_if (ht : DT X E c mt) (ha : DE X E a ma) (hb : DE X E b mb) : DE X E (.IfExp c a b pos) (mIf mt ma mb) :=
  PE.imp (pe_ifExp ht ha hb) fun σ H Q ⟨pb, pg, H0, env, b, G, w, ev, q⟩ => ⟨pb, pg, H0, env, b, G, w, ev, PstG.bind q fun a1 b1 v1 G1 H1 s1 w1 p1 q1 => by
    cases (show v1 = a1 from p1)
    cases a1 with
    | true => rw [if_pos rfl] at q1 ⊢; exact ⟨pb, pg, H0, env, b1, G1, w1, ev.step s1, q1⟩
    | false => rw [if_neg Bool.false_ne_true] at q1 ⊢; exact ⟨pb, pg, H0, env, b1, G1, w1, ev.step s1, q1⟩⟩
theorem de_un {op : UnaryOp} {g : D → Option D} (ho : UnD X (unaryOp op) g) (ha : DV X E a ma) : DE X E (.UnaryOp op a pos) (m1 g ma) :=
  PE.imp (pe_un ho ha) fun σ H Q ⟨pb, pg, H0, env, b, G, w, ev, q⟩ => ⟨pb, pg, H0, env, b, G, w, ev, PstG.bind q fun a1 b1 v1 G1 H1 s1 w1 p1 q1 => by
    cases hg : g a1 with
    | none => rw [hg] at q1; exact q1.elim
    | some d => rw [hg] at q1; exact ⟨pb, pg, b1, G1, a1, d, w1, p1, hg, q1⟩⟩
theorem readCh {K : PySem.W.Frag} {mg : Str → Option Value} {g g' : D → D → Option D} {σ : L2.St} {H : Hp} {Q : VK} (h : tM K mg E (mCh g g' ma mb mc) σ H Q) : tChain (rD2 K mg g) (rD2 K mg g') (tV K mg E ma) (tV K mg E mb) (tV K mg E mc) σ H Q := by
  obtain ⟨pb, pg, H0, env, b, G, w, ev, q⟩ := h
  refine ⟨pb, pg, H0, env, b, G, w, ev, PstG.bind q fun a1 b1 v1 G1 H1 s1 w1 p1 q1 => ?_⟩
  refine ⟨pb, pg, H0, env, b1, G1, w1, ev.step s1, PstG.bind q1 fun a2 b2 v2 G2 H2 s2 w2 p2 q2 => ?_⟩
  cases hg : g a1 a2 with
  | none => rw [hg] at q2; exact q2.elim
  | some d =>
    rw [hg] at q2
    refine ⟨pb, pg, b2, G2, a1, a2, d, w2, p1.mono s2, p2, hg, fun v G3 H3 s3 w3 r3 => ?_⟩
    cases d with
    | bl k =>
      refine ⟨k, r3, ?_⟩
      cases k with
      | true =>
        rw [if_pos rfl]
        refine ⟨pb, pg, H0, env, b2, G3, w3, (ev.step (s1.trans s2)).step s3, PstG.bind (PstG.of s3 q2) fun a4 b4 v4 G4 H4 s4 w4 p4 q4 => ?_⟩
        cases hg' : g' a2 a4 with
        | none => rw [hg'] at q4; exact q4.elim
        | some d' => rw [hg'] at q4; exact ⟨pb, pg, b4, G4, a2, a4, d', w4, (p2.mono s3).mono s4, p4, hg', q4⟩
      | false =>
        rw [if_neg Bool.false_ne_true]
        exact q2 (.bl false) G3 H3 s3 w3 rfl
    | _ => exact q2.elim
theorem de_chain {op op' : CmpOp} {g g' : D → D → Option D} (ho : OpD X (compareOp op) g) (ho' : OpD X (compareOp op') g') (ha : DV X E a ma) (hb : DV X E b mb) (hc : DV X E c mc) (hm : lastMarks [op, op'] [b, c] = false := by rfl) : DE X E (.Compare a [op, op'] [b, c] pos) (mCh g g' ma mb mc) :=
  PE.imp (pe_chain ho ho' ha hb hc hm) fun _ _ _ h => readCh h
theorem dt_chain {op op' : CmpOp} {g g' : D → D → Option D} (ho : OpD X (compareOp op) g) (ho' : OpD X (compareOp op') g') (ha : DV X E a ma) (hb : DV X E b mb) (hc : DV X E c mc) (hm : lastMarks [op, op'] [b, c] = false := by rfl) : DT X E (.Compare a [op, op'] [b, c] pos) (mT (mCh g g' ma mb mc)) :=
  PT.imp (pt_chain ho ho' ha hb hc hm) fun _ _ _ h => readCh (readT h)

/-! ### arguments -/
theorem da_nil : DA X E [] mNil := PA.imp pa_nil fun σ H Q ⟨pb, pg, H0, env, b, G, w, ev, q⟩ => q [] G H (Stp.refl _ _ _) w .nil
theorem da_cons (ha : DE X E e ma) (hr : DA X E es mr) (hs : starEach (e :: es) X.env = (false, eval e X.env) :: starEach es X.env := by rfl) : DA X E (e :: es) (mCons ma mr) :=
  PA.imp (pa_cons ha hr hs) fun σ H Q ⟨pb, pg, H0, env, b, G, w, ev, q⟩ => ⟨pb, pg, H0, env, b, G, w, ev, PstG.bind q fun a1 b1 v1 G1 H1 s1 w1 p1 q1 =>
    ⟨pb, pg, H0, env, b1, G1, w1, ev.step s1, PstG.bind q1 fun a2 b2 v2 G2 H2 s2 w2 p2 q2 => q2 (v1 :: v2) G2 H2 (Stp.refl _ _ _) w2 (.cons (Rep.mono s2.g _ _ p1) p2)⟩⟩
theorem dw_nil : DAv X E [] mNil := PA.imp pa_nil fun σ H Q ⟨pb, pg, H0, env, b, G, w, ev, q⟩ => q [] G H (Stp.refl _ _ _) w rfl
theorem dw_cons (ha : DV X E e ma) (hr : DAv X E es mr) (hs : starEach (e :: es) X.env = (false, eval e X.env) :: starEach es X.env := by rfl) : DAv X E (e :: es) (mCons ma mr) :=
  PA.imp (pa_cons ha hr hs) fun σ H Q ⟨pb, pg, H0, env, b, G, w, ev, q⟩ => ⟨pb, pg, H0, env, b, G, w, ev, PstG.bind q fun a1 b1 v1 G1 H1 s1 w1 p1 q1 =>
    ⟨pb, pg, H0, env, b1, G1, w1, ev.step s1, PstG.bind q1 fun a2 b2 v2 G2 H2 s2 w2 p2 q2 => q2 (v1 :: v2) G2 H2 (Stp.refl _ _ _) w2 ⟨v1, v2, rfl, p1.mono s2, p2⟩⟩⟩
theorem readB {K : PySem.W.Frag} {mg : Str → Option Value} {g : List D → Option D} {σ : L2.St} {H : Hp} {Q : VK} (h : tM K mg E (mB g mr) σ H Q) : tCB (rDC K mg g) (tW K mg E mr) σ H Q := by
  obtain ⟨pb, pg, H0, env, b, G, w, ev, q⟩ := h
  refine ⟨pb, pg, H0, env, b, G, w, ev, PstG.bind q fun a1 b1 v1 G1 H1 s1 w1 p1 q1 => ?_⟩
  cases hg : g a1 with
  | none => rw [hg] at q1; exact q1.elim
  | some d => rw [hg] at q1; exact ⟨pb, pg, b1, G1, a1, d, w1, p1, hg, q1⟩
theorem pF.weak {c : MC} {H H1 G' H' : Hp} {d : D} {v : V} (k : ∀ a, H a ≠ none → H1 a ≠ none) (h : pF c H1 G' H' d v) : pF c H G' H' d v := by
  have kk : ∀ p, H1 p = none → H p = none := fun p e => Classical.byContradiction fun z => k p z e
  cases d with
  | lst ds => obtain ⟨p, vs, e, hp, gp, h0, r⟩ := h; exact ⟨p, vs, e, hp, gp, kk p h0, r⟩
  | dK ks ds => obtain ⟨p, vs, e, hp, hl, gp, h0, r⟩ := h; exact ⟨p, vs, e, hp, hl, gp, kk p h0, r⟩
  | dT ks ds => obtain ⟨p, vs, e, hp, hl, gp, h0, r⟩ := h; exact ⟨p, vs, e, hp, hl, gp, kk p h0, r⟩
  | _ => exact h.elim
theorem readF {K : PySem.W.Frag} {mg : Str → Option Value} {g : List D → Option D} {σ : L2.St} {H : Hp} {Q : VK} (h : tF K mg E (mB g mr) σ H Q) : tCB (rFC K mg g) (tW K mg E mr) σ H Q := by
  obtain ⟨pb, pg, H0, env, b, G, w, ev, q⟩ := h
  refine ⟨pb, pg, H0, env, b, G, w, ev, PstG.bind q fun a1 b1 v1 G1 H1 s1 w1 p1 q1 => ?_⟩
  cases hg : g a1 with
  | none => rw [hg] at q1; exact q1.elim
  | some d => rw [hg] at q1; exact ⟨pb, pg, b1, G1, a1, d, w1, p1, hg, fun v G' H' s' w' f' => q1 v G' H' s' w' (pF.weak s1.dm f')⟩
theorem de_callB {id : String} {x : Str} {p : Pos} {g : List D → Option D} (hc : CallD X (.builtin id) g) (hg : Gl X x) (hm : X.mg x = none) (hv : bootBuiltins x = some (.builtin id)) (ha : DAv X E (e :: es) mr)
    (hn : x ≠ "__name__" := by decide) (hdb : (x == ("__debug__" : Str)) = false := by decide) (he : starEach (e :: es) X.env = (false, eval e X.env) :: starEach es X.env := by rfl) (hpl : (backTo pos (starEach es X.env)).any (·.1) = false := by rfl) : DE X E (.Call (.Name x p) (e :: es) [] pos) (mB g mr) :=
  PE.imp (pe_callB hc hg hm hv ha hn hdb he hpl) fun _ _ _ h => readB h
theorem de_callTy {T : String} {x : Str} {p : Pos} {g : List D → Option D} (hc : CallD X (.type T) g) (hg : Gl X x) (hm : X.mg x = none) (hv : bootBuiltins x = some (.type T)) (ha : DAv X E (e :: es) mr)
    (hn : x ≠ "__name__" := by decide) (hdb : (x == ("__debug__" : Str)) = false := by decide) (he : starEach (e :: es) X.env = (false, eval e X.env) :: starEach es X.env := by rfl) (hpl : (backTo pos (starEach es X.env)).any (·.1) = false := by rfl) : DE X E (.Call (.Name x p) (e :: es) [] pos) (mB g mr) :=
  PE.imp (pe_callTy hc hg hm hv ha hn hdb he hpl) fun _ _ _ h => readB h
theorem df_callB {id : String} {x : Str} {p : Pos} {g : List D → Option D} (hc : CallF X (.builtin id) g) (hg : Gl X x) (hm : X.mg x = none) (hv : bootBuiltins x = some (.builtin id)) (ha : DAv X E (e :: es) mr)
    (hn : x ≠ "__name__" := by decide) (hdb : (x == ("__debug__" : Str)) = false := by decide) (he : starEach (e :: es) X.env = (false, eval e X.env) :: starEach es X.env := by rfl) (hpl : (backTo pos (starEach es X.env)).any (·.1) = false := by rfl) : DF X E (.Call (.Name x p) (e :: es) [] pos) (mB g mr) :=
  PE.imp (pe_callB hc hg hm hv ha hn hdb he hpl) fun _ _ _ h => readF h
theorem df_callTy {T : String} {x : Str} {p : Pos} {g : List D → Option D} (hc : CallF X (.type T) g) (hg : Gl X x) (hm : X.mg x = none) (hv : bootBuiltins x = some (.type T)) (ha : DAv X E (e :: es) mr)
    (hn : x ≠ "__name__" := by decide) (hdb : (x == ("__debug__" : Str)) = false := by decide) (he : starEach (e :: es) X.env = (false, eval e X.env) :: starEach es X.env := by rfl) (hpl : (backTo pos (starEach es X.env)).any (·.1) = false := by rfl) : DF X E (.Call (.Name x p) (e :: es) [] pos) (mB g mr) :=
  PE.imp (pe_callTy hc hg hm hv ha hn hdb he hpl) fun _ _ _ h => readF h
end
end Mr

set_option Elab.async false
set_option linter.all false
set_option maxRecDepth 100000
namespace Mr
open PySem PySem.Spec L2

/-! ### data as the library's plain data -/
mutual
def toPy : D → PyData
  | .non => .none
  | .bl b => .bool b
  | .int i => .int i
  | .str x => .str x
  | .tup ds => .tuple (toPys ds)
  | .kt ds => .tuple (toPys ds)
  | .lst ds => .list (toPys ds)
  | .dK _ _ => .dict []
  | .dT _ _ => .dict []
  | .ob _ _ _ => .dict []
  | .bag => .dict []
def toPys : List D → List PyData
  | [] => []
  | d :: ds => toPy d :: toPys ds
end
theorem toPys_map (ds : List D) : toPys ds = ds.map toPy := by
  induction ds with
  | nil => rfl
  | cons d ds ih => rw [toPys, ih]; rfl
section
variable {c : MC} {b : Bag} {G H : Hp}
mutual
theorem Rep.dp (w : Wd c b G H) : ∀ (d : D) (v : V), Rep c G d v → (toPy d).canLay0 = true → Dp c.K H v (toPy d)
  | .non, _, r, _ => by cases r; exact .non
  | .bl b, _, r, _ => by cases r; exact .bl b
  | .int i, _, r, _ => by cases r; exact .int i
  | .str x, _, r, _ => by cases r; exact .str x
  | .tup ds, _, r, k => by
    obtain ⟨p, vs, rfl, s, r⟩ := r
    exact .tup (.inl (.inl (w.tup s))) (Reps.dp w ds vs r (by simpa [toPy, PyData.canLay0] using k))
  | .lst ds, _, r, k => by
    obtain ⟨p, vs, rfl, s, r⟩ := r
    exact .lst (.inl (w.rd s)) (Reps.dp w ds vs r (by simpa [toPy, PyData.canLay0] using k))
  | .kt ds, _, r, k => by
    obtain ⟨p, vs, rfl, s, r⟩ := r
    exact .tup (.inr s) (Reps.dp w ds vs r (by simpa [toPy, PyData.canLay0] using k))
  | .dK _ _, _, _, k => by simp [toPy, PyData.canLay0] at k
  | .dT _ _, _, _, k => by simp [toPy, PyData.canLay0] at k
  | .ob _ _ _, _, _, k => by simp [toPy, PyData.canLay0] at k
  | .bag, _, _, k => by simp [toPy, PyData.canLay0] at k
theorem Reps.dp (w : Wd c b G H) : ∀ (ds : List D) (vs : List V), Reps c G ds vs → PyData.canLayAll0 (toPys ds) = true → DpAll c.K H vs (toPys ds)
  | [], _, r, _ => by cases (show _ = [] from r); exact .nil
  | d :: ds, _, r, k => by
    obtain ⟨v, ws, rfl, r1, r2⟩ := r
    have k' : (toPy d).canLay0 = true ∧ PyData.canLayAll0 (toPys ds) = true := by simpa [toPys, PyData.canLayAll0] using k
    exact .cons (Rep.dp w d v r1 k'.1) (Reps.dp w ds ws r2 k'.2)
end
theorem Vw.dp (w : Wd c b G H) {d : D} {v : V} (r : Vw c G H d v) (k : (toPy d).canLay0 = true) : Dp c.K H v (toPy d) := by
  cases d with
  | lst ds =>
    obtain ⟨p, vs, rfl, s, r⟩ := r
    exact .lst s.l (Reps.dp w ds vs r (by simpa [toPy, PyData.canLay0] using k))
  | dK _ _ => simp [toPy, PyData.canLay0] at k
  | dT _ _ => simp [toPy, PyData.canLay0] at k
  | non => exact Rep.dp w .non v r k
  | bl x => exact Rep.dp w (.bl x) v r k
  | int x => exact Rep.dp w (.int x) v r k
  | str x => exact Rep.dp w (.str x) v r k
  | tup ds => exact Rep.dp w (.tup ds) v r k
  | kt ds => exact Rep.dp w (.kt ds) v r k
  | ob n ns ds => exact Rep.dp w (.ob n ns ds) v r k
  | bag => exact Rep.dp w .bag v r k
end

/-- plain data: what == compares -/
def okD (d : D) : Bool := SeqAt.shaped (toPy d)
def eqv (d e : D) : Bool := PyData.eqv (toPy d) (toPy e)
def eqG (x y : D) : Option D := if okD x = true ∧ okD y = true then some (.bl (eqv x y)) else none
def neG (x y : D) : Option D := if okD x = true ∧ okD y = true then some (.bl (!eqv x y)) else none
section
variable {X : Cx}
theorem okD_lay {d : D} (h : okD d = true) : (toPy d).canLay0 = true := SeqAt.canLay_of_shaped h
theorem op_eqG (hu : X.A.units + 64 < cLine) : OpD X (compareOp .Eq) eqG := by
  intro pins s σ H x y v u Q I rx ry h
  obtain ⟨pb, pg, b, G, dx, dy, d, w, vx, vy, e, q⟩ := h
  unfold eqG at e
  split at e
  · rename_i ok
    cases e
    exact op_eqD hu pins s σ H x y v u Q I rx ry ⟨_, _, vx.dp w (okD_lay ok.1), vy.dp w (okD_lay ok.2), ok.1, ok.2, q _ G H (Stp.refl _ _ _) w rfl⟩
  · cases e
theorem op_neG (hu : X.A.units + 64 < cLine) : OpD X (compareOp .NotEq) neG := by
  intro pins s σ H x y v u Q I rx ry h
  obtain ⟨pb, pg, b, G, dx, dy, d, w, vx, vy, e, q⟩ := h
  unfold neG at e
  split at e
  · rename_i ok
    cases e
    exact op_neD hu pins s σ H x y v u Q I rx ry ⟨_, _, vx.dp w (okD_lay ok.1), vy.dp w (okD_lay ok.2), ok.1, ok.2, q _ G H (Stp.refl _ _ _) w rfl⟩
  · cases e

/-! ### arithmetic -/
def smallI (i : Int) : Bool := decide (-(2 ^ 64) < i) && decide (i < 2 ^ 64)
def mulG : D → D → Option D
  | .int i, .int j => if smallI i = true ∨ smallI j = true then some (.int (i * j)) else none
  | _, _ => none
def subG : D → D → Option D
  | .int i, .int j => some (.int (i - j))
  | _, _ => none
def addG : D → D → Option D
  | .int i, .int j => some (.int (i + j))
  | .str i, .str j => if i.length + j.length ≤ 100000 then some (.str (i ++ j)) else none
  | .tup a, .tup b => if a.length + b.length ≤ 100000 then some (.tup (a ++ b)) else none
  | .lst a, .lst b => if a.length + b.length ≤ 100000 then some (.lst (a ++ b)) else none
  | _, _ => none
def divG : D → D → Option D
  | .int i, .int j => if 0 < j ∧ j < 1073741824 then some (.int (i / j)) else none
  | _, _ => none
def modG : D → D → Option D
  | .int i, .int j => if 0 < j then some (.int (i % j)) else none
  | _, _ => none
def powG : D → D → Option D
  | .int i, .int j => if 0 ≤ j ∧ j ≤ 1000000 ∧ i.natAbs < 2 ^ 64 then some (.int (i ^ j.toNat)) else none
  | _, _ => none
def ltG : D → D → Option D
  | .int i, .int j => some (.bl (decide (i < j)))
  | _, _ => none
def leG : D → D → Option D
  | .int i, .int j => some (.bl (decide (i ≤ j)))
  | _, _ => none
def gtG : D → D → Option D
  | .int i, .int j => some (.bl (decide (j < i)))
  | _, _ => none
def geG : D → D → Option D
  | .int i, .int j => some (.bl (decide (j ≤ i)))
  | _, _ => none
def negG : D → Option D
  | .int i => some (.int (-i))
  | _ => none
theorem ite_some {α : Type} {c : Prop} [Decidable c] {a d : α} (h : (if c then some a else none) = some d) : c ∧ d = a := by
  split at h
  · rename_i hc
    exact ⟨hc, (Option.some.inj h).symm⟩
  · cases h
/-- two ints -/
theorem op_ints {f : Value → Value → Sem Value} {C : Int → Int → Prop} {k : Int → Int → D} {kv : Int → Int → V} {g : D → D → Option D} (h : OpR X f (rI C kv)) (hk : ∀ (c : MC) G i j, Rep c G (k i j) (kv i j))
    (hg : ∀ x y d, g x y = some d → ∃ i j, x = .int i ∧ y = .int j ∧ C i j ∧ d = k i j) : OpD X f g := by
  intro pins s σ H x y v u Q I rx ry hh
  obtain ⟨pb, pg, b, G, dx, dy, d, w, vx, vy, e, q⟩ := hh
  obtain ⟨i, j, rfl, rfl, hc, rfl⟩ := hg _ _ _ e
  cases (show x = .int i from vx)
  cases (show y = .int j from vy)
  exact h pins s σ H _ _ v u Q I rx ry ⟨i, j, rfl, rfl, hc, q _ G H (Stp.refl _ _ _) w (hk _ _ _ _)⟩
theorem rI_of {f : Value → Value → Sem Value} {g : Int → Int → V} (h : OpR X f (rI0 g)) : OpR X f (rI (fun _ _ => True) g) := fun pins s σ H x y v u Q I rx ry ⟨i, j, e1, e2, _, q⟩ => h pins s σ H x y v u Q I rx ry ⟨i, j, e1, e2, q⟩
theorem op_subG : OpD X (binaryOp .Sub) subG := op_ints (k := fun i j => .int (i - j)) (rI_of op_sub) (fun _ _ _ _ => rfl) fun x y d e => by
  cases x <;> cases y <;> cases e
  exact ⟨_, _, rfl, rfl, trivial, rfl⟩
theorem op_ltG : OpD X (compareOp .Lt) ltG := op_ints (k := fun i j => .bl (decide (i < j))) (rI_of op_lt) (fun _ _ _ _ => rfl) fun x y d e => by
  cases x <;> cases y <;> cases e
  exact ⟨_, _, rfl, rfl, trivial, rfl⟩
theorem op_leG : OpD X (compareOp .LtE) leG := op_ints (k := fun i j => .bl (decide (i ≤ j))) (rI_of op_le) (fun _ _ _ _ => rfl) fun x y d e => by
  cases x <;> cases y <;> cases e
  exact ⟨_, _, rfl, rfl, trivial, rfl⟩
theorem op_gtG : OpD X (compareOp .Gt) gtG := op_ints (k := fun i j => .bl (decide (j < i))) (rI_of op_gt) (fun _ _ _ _ => rfl) fun x y d e => by
  cases x <;> cases y <;> cases e
  exact ⟨_, _, rfl, rfl, trivial, rfl⟩
theorem op_geG : OpD X (compareOp .GtE) geG := op_ints (k := fun i j => .bl (decide (j ≤ i))) (rI_of op_ge) (fun _ _ _ _ => rfl) fun x y d e => by
  cases x <;> cases y <;> cases e
  exact ⟨_, _, rfl, rfl, trivial, rfl⟩
theorem op_divG : OpD X (binaryOp .FloorDiv) divG := op_ints (k := fun i j => .int (i / j)) op_fdiv (fun _ _ _ _ => rfl) fun x y d e => by
  cases x <;> cases y <;> first | (cases e; done) | skip
  rename_i i j
  obtain ⟨h, rfl⟩ := ite_some (c := 0 < j ∧ j < 1073741824) (a := D.int (i / j)) e
  exact ⟨_, _, rfl, rfl, h, rfl⟩
theorem op_modG : OpD X (binaryOp .Mod) modG := op_ints (k := fun i j => .int (i % j)) op_mod (fun _ _ _ _ => rfl) fun x y d e => by
  cases x <;> cases y <;> first | (cases e; done) | skip
  rename_i i j
  obtain ⟨h, rfl⟩ := ite_some (c := 0 < j) (a := D.int (i % j)) e
  exact ⟨_, _, rfl, rfl, h, rfl⟩
theorem op_powG : OpD X (binaryOp .Pow) powG := op_ints (k := fun i j => .int (i ^ j.toNat)) op_pow (fun _ _ _ _ => rfl) fun x y d e => by
  cases x <;> cases y <;> first | (cases e; done) | skip
  rename_i i j
  obtain ⟨h, rfl⟩ := ite_some (c := 0 ≤ j ∧ j ≤ 1000000 ∧ i.natAbs < 2 ^ 64) (a := D.int (i ^ j.toNat)) e
  exact ⟨_, _, rfl, rfl, h, rfl⟩
theorem un_negG : UnD X (unaryOp .USub) negG := by
  intro pins s σ H x v Q I rx h
  obtain ⟨pb, pg, b, G, dx, d, w, vx, e, q⟩ := h
  cases dx <;> cases e
  cases (show x = .int _ from vx)
  exact un_neg pins s σ H _ v Q I rx ⟨_, rfl, q _ G H (Stp.refl _ _ _) w rfl⟩

/-! ### sequences put together -/
theorem inv_lstR {pins : List (Addr × Obj)} {σ : L2.St} {H : Hp} {s : Shared} {l : Addr} {xs : List V} (I : Inv X pins σ H s) (hH : Rd H l (.lst xs)) :
    xs.length ≤ sizeLine ∧ ∃ (its : List Value) (n : Nat), Vals xs its ∧ xs.length = its.length ∧ s.heap.get? l = some { cls := .type "list", data := .seq its.toArray n } := by
  obtain ⟨z, its, n, r, e⟩ := hH.ok I.hok
  exact ⟨z, its, n, r, r.length, e⟩
theorem op_catR : OpR X (binaryOp .Add) (fun x y H Q => ∃ l b xs zs, x = .ref l ∧ y = .ref b ∧ Rd H l (.lst xs) ∧ Rd H b (.lst zs) ∧ xs.length + zs.length ≤ sizeLine ∧ ∀ p, H p = none → Q (.ref p) (upd H p (.lst (xs ++ zs)))) := by
  intro pins s σ H x y v u Q I rx ry h
  obtain ⟨l, b, xs, zs, rfl, rfl, hH, hB, hz, q⟩ := h
  cases rx
  cases ry
  obtain ⟨z, its, n, r, hl, e⟩ := inv_lstR I hH
  obtain ⟨z2, its2, n2, r2, hl2, e2⟩ := inv_lstR I hB
  refine PySem.P.add_list e e2 ?_ (by rw [List.size_toArray, List.size_toArray]; omega)
  have ea : its.toArray ++ its2.toArray = (its ++ its2).toArray := by simp
  rw [ea]
  exact ⟨.ref _, _, I.lnew (t' := s.toks) (r.append r2) (by rw [List.length_append]; omega), rfl, q _ I.fresh⟩
theorem sz_of {n : Nat} (h : n ≤ 100000) : n ≤ sizeLine := Nat.le_trans h (by decide)
theorem op_addG : OpD X (binaryOp .Add) addG := by
  intro pins s σ H x y v u Q I rx ry h
  obtain ⟨pb, pg, b, G, dx, dy, d, w, vx, vy, e, q⟩ := h
  cases dx <;> cases dy <;> first | (cases e; done) | skip
  · cases e
    exact op_add pins s σ H x y v u Q I rx ry ⟨_, _, vx, vy, q _ G H (Stp.refl _ _ _) w rfl⟩
  · rename_i i j
    obtain ⟨hz, rfl⟩ := ite_some (c := i.length + j.length ≤ 100000) (a := D.str (i ++ j)) e
    exact op_add_str pins s σ H x y v u Q I rx ry ⟨_, _, vx, vy, sz_of hz, q _ G H (Stp.refl _ _ _) w rfl⟩
  · rename_i ds es
    obtain ⟨hz, rfl⟩ := ite_some (c := ds.length + es.length ≤ 100000) (a := D.tup (ds ++ es)) e
    obtain ⟨p1, vs, rfl, h1, r1⟩ := vx
    obtain ⟨p2, ws, rfl, h2, r2⟩ := vy
    have l1 := r1.len
    have l2 := r2.len
    refine op_catA pins s σ H _ _ v u Q I rx ry ⟨p1, p2, vs, ws, rfl, rfl, .inl (.inl (w.tup h1)), .inl (.inl (w.tup h2)), sz_of (by omega), fun z => ?_, fun _ z => ?_, fun _ _ p hp => ?_⟩
    · subst z
      have : ds = [] := List.length_eq_zero_iff.mp l1
      subst this
      exact q _ G H (Stp.refl _ _ _) w ⟨p2, ws, rfl, h2, r2⟩
    · subst z
      have : es = [] := List.length_eq_zero_iff.mp l2
      subst this
      rw [List.append_nil] at q
      exact q _ G H (Stp.refl _ _ _) w ⟨p1, vs, rfl, h1, r1⟩
    · obtain ⟨s2, w2⟩ := Stp.new (o := .tup (vs ++ ws)) w hp
      exact q _ _ _ s2 w2 ⟨p, _, rfl, upd_same, (r1.append r2).mono s2.g⟩
  · rename_i ds es
    obtain ⟨hz, rfl⟩ := ite_some (c := ds.length + es.length ≤ 100000) (a := D.lst (ds ++ es)) e
    obtain ⟨p1, vs, rfl, h1, r1⟩ := vx
    obtain ⟨p2, ws, rfl, h2, r2⟩ := vy
    have l1 := r1.len
    have l2 := r2.len
    refine op_catR pins s σ H _ _ v u Q I rx ry ⟨p1, p2, vs, ws, rfl, rfl, h1.1, h2.1, sz_of (by omega), fun p hp => ?_⟩
    obtain ⟨s2, w2⟩ := Stp.new (o := .lst (vs ++ ws)) w hp
    exact q _ _ _ s2 w2 ⟨p, _, rfl, upd_same, (r1.append r2).mono s2.g⟩
theorem CMul_of {i j : Int} (h : smallI i = true ∨ smallI j = true) : CMul i j := by
  unfold smallI at h
  simp only [Bool.and_eq_true, decide_eq_true_eq] at h
  exact h

theorem op_mulG : OpD X (binaryOp .Mult) mulG := op_ints (k := fun i j => .int (i * j)) op_mul (fun _ _ _ _ => rfl) fun x y d e => by
  cases x <;> cases y <;> first | (cases e; done) | skip
  rename_i i j
  obtain ⟨h, rfl⟩ := ite_some (c := smallI i = true ∨ smallI j = true) (a := D.int (i * j)) e
  exact ⟨_, _, rfl, rfl, CMul_of h, rfl⟩

/-! ### is None -/
def isNonD : D → Bool
  | .non => true
  | _ => false
def isG (x y : D) : Option D := match y with
  | .non => some (.bl (isNonD x))
  | _ => none
def isnG (x y : D) : Option D := match y with
  | .non => some (.bl (!isNonD x))
  | _ => none
theorem vw_non {c : MC} {G H : Hp} {d : D} {v : V} (r : Vw c G H d v) : decide (v = .non) = isNonD d := by
  cases d with
  | non => cases (show v = .non from r); rfl
  | bl x => cases (show v = .bl x from r); rfl
  | int x => cases (show v = .int x from r); rfl
  | str x => cases (show v = .str x from r); rfl
  | tup ds => obtain ⟨p, vs, rfl, _⟩ := r; rfl
  | kt ds => obtain ⟨p, vs, rfl, _⟩ := r; rfl
  | lst ds => obtain ⟨p, vs, rfl, _⟩ := r; rfl
  | dK ks ds => obtain ⟨p, vs, rfl, _⟩ := r; rfl
  | dT ks ds => obtain ⟨p, vs, rfl, _⟩ := r; rfl
  | ob n ns ds => obtain ⟨p, C, dx, vs, rfl, _⟩ := r; rfl
  | bag => cases (show v = .ref c.pb from r); rfl
theorem op_isG : OpD X (compareOp .Is) isG := by
  intro pins s σ H x y v u Q I rx ry h
  obtain ⟨pb, pg, b, G, dx, dy, d, w, vx, vy, e, q⟩ := h
  cases dy <;> cases e
  exact op_isN pins s σ H x y v u Q I rx ry ⟨vy, q _ G H (Stp.refl _ _ _) w (congrArg V.bl (vw_non vx))⟩
theorem op_isnG : OpD X (compareOp .IsNot) isnG := by
  intro pins s σ H x y v u Q I rx ry h
  obtain ⟨pb, pg, b, G, dx, dy, d, w, vx, vy, e, q⟩ := h
  cases dy <;> cases e
  exact op_notN pins s σ H x y v u Q I rx ry ⟨vy, q _ G H (Stp.refl _ _ _) w (congrArg V.bl (congrArg (!·) (vw_non vx)))⟩
end
end Mr

set_option Elab.async false
set_option linter.all false
set_option maxRecDepth 100000
namespace Mr
open PySem PySem.Spec L2

/-! ### in -/
def flatD : D → Bool
  | .non => true
  | .bl _ => true
  | .int _ => true
  | .str _ => true
  | _ => false
section
variable {c : MC} {b : Bag} {G H : Hp}
theorem rep_flat {d : D} {v : V} (r : Rep c G d v) (h : flatD d = true) : flatV v = true := by
  cases d <;> first | (cases h; done) | skip
  all_goals (cases r; rfl)
theorem rep_eqv {d e : D} {v w : V} (r : Rep c G d v) (r2 : Rep c G e w) (h : flatD d = true) (h2 : flatD e = true) : eqV v w = eqv d e := by
  cases d <;> first | (cases h; done) | skip
  all_goals cases e <;> first | (cases h2; done) | skip
  all_goals
    cases r
    cases r2
    simp [eqV, eqv, toPy, PyData.eqv]
theorem reps_flat : ∀ {ds : List D} {vs : List V}, Reps c G ds vs → ds.all flatD = true → vs.all flatV = true
  | [], vs, r, _ => by cases (show vs = [] from r); rfl
  | d :: ds, vs, r, h => by
    obtain ⟨v, ws, rfl, r1, r2⟩ := r
    rw [List.all_cons, Bool.and_eq_true] at h ⊢
    exact ⟨rep_flat r1 h.1, reps_flat r2 h.2⟩
theorem reps_in {e : D} {w : V} (r2 : Rep c G e w) (h2 : flatD e = true) : ∀ {ds : List D} {vs : List V}, Reps c G ds vs → ds.all flatD = true → inV w vs = ds.any fun z => eqv z e
  | [], vs, r, _ => by cases (show vs = [] from r); rfl
  | d :: ds, vs, r, h => by
    obtain ⟨v, ws, rfl, r1, r3⟩ := r
    rw [List.all_cons, Bool.and_eq_true] at h
    have ih := reps_in r2 h2 r3 h.2
    unfold inV at ih ⊢
    rw [List.any_cons, List.any_cons, rep_eqv r1 r2 h.1 h2, ih]
end
section
variable {κ : Type} [DecidableEq κ]
def getK : List κ → List D → κ → Option D
  | k' :: ks, d :: ds, k => if k' = k then some d else getK ks ds k
  | _, _, _ => none
def putKs (ks : List κ) (k : κ) : List κ := if k ∈ ks then ks else ks ++ [k]
def putDs (ks : List κ) (ds : List D) (k : κ) (d : D) : List D := if k ∈ ks then List.zipWith (fun k' d' => if k' = k then d else d') ks ds else ds ++ [d]
theorem getK_rep {c : MC} {G : Hp} : ∀ {ks : List κ} {ds : List D} {vs : List V} (k : κ), Reps c G ds vs → ks.length = vs.length →
    (∀ d, getK ks ds k = some d → ∃ v, valV (ks.zip vs) k = some v ∧ Rep c G d v) ∧ (getK ks ds k = none → valV (ks.zip vs) k = none)
  | [], ds, vs, k, _, _ => ⟨fun d h => by simp [getK] at h, fun _ => by simp [valV]⟩
  | k' :: ks, [], vs, k, r, l => by
    cases (show vs = [] from r)
    simp at l
  | k' :: ks, d' :: ds, vs, k, r, l => by
    obtain ⟨v, ws, rfl, r1, r2⟩ := r
    have ih := getK_rep (ks := ks) k r2 (by simpa using l)
    by_cases h : k' = k
    · subst h
      refine ⟨fun d e => ?_, fun e => ?_⟩
      · simp [getK] at e
        subst e
        exact ⟨v, valV_pos rfl, r1⟩
      · simp [getK] at e
    · refine ⟨fun d e => ?_, fun e => ?_⟩
      · simp only [getK, if_neg h] at e
        obtain ⟨w, h1, h2⟩ := ih.1 d e
        exact ⟨w, by rw [List.zip_cons_cons, valV_neg h]; exact h1, h2⟩
      · simp only [getK, if_neg h] at e
        rw [List.zip_cons_cons, valV_neg h]
        exact ih.2 e
theorem zip_any {ks : List κ} {vs : List V} (k : κ) (l : ks.length = vs.length) : ((ks.zip vs).any fun kv => decide (kv.1 = k)) = decide (k ∈ ks) := by
  induction ks generalizing vs with
  | nil => simp
  | cons k' ks ih =>
    cases vs with
    | nil => simp at l
    | cons v vs =>
      rw [List.zip_cons_cons, List.any_cons, ih (by simpa using l)]
      by_cases h : k' = k
      · subst h; simp
      · simp [h, Ne.symm h, eq_comm]
theorem zip_put {c : MC} {G : Hp} {ks : List κ} {ds : List D} {vs : List V} {k : κ} {d : D} {v : V} (r : Reps c G ds vs) (l : ks.length = vs.length) (rd : Rep c G d v) :
    ∃ ws, putK (ks.zip vs) k v = (putKs ks k).zip ws ∧ (putKs ks k).length = ws.length ∧ Reps c G (putDs ks ds k d) ws := by
  unfold putK putKs putDs
  rw [zip_any k l]
  by_cases h : k ∈ ks
  · rw [if_pos (by simpa using h), if_pos h, if_pos h]
    refine ⟨List.zipWith (fun k' v' => if k' = k then v else v') ks vs, ?_, ?_, ?_⟩
    · clear h r
      induction ks generalizing vs with
      | nil => simp
      | cons k' ks ih =>
        cases vs with
        | nil => simp
        | cons v' vs =>
          rw [List.zip_cons_cons, List.map_cons, List.zipWith_cons_cons, List.zip_cons_cons, ih (by simpa using l)]
          by_cases h : k' = k
          · simp [h]
          · simp [h]
    · rw [List.length_zipWith]; omega
    · clear h
      induction ks generalizing vs ds with
      | nil => simp; exact .nil
      | cons k' ks ih =>
        cases ds with
        | nil => cases (show vs = [] from r); simp; exact .nil
        | cons d' ds =>
          obtain ⟨v', ws, rfl, r1, r2⟩ := r
          rw [List.zipWith_cons_cons, List.zipWith_cons_cons]
          refine .cons ?_ (ih r2 (by simpa using l))
          by_cases h : k' = k
          · rw [if_pos h, if_pos h]; exact rd
          · rw [if_neg h, if_neg h]; exact r1
  · rw [if_neg (by simpa using h), if_neg h, if_neg h]
    refine ⟨vs ++ [v], ?_, ?_, r.append (.one rd)⟩
    · rw [List.zip_append l]; rfl
    · rw [List.length_append, List.length_append, l]; rfl
end
def keyD : D → Option Key
  | .int i => some (.inl i)
  | .str x => some (.inr x)
  | _ => none
def keysD : List D → Option (List Key)
  | [] => some []
  | d :: ds => match keyD d, keysD ds with
    | some k, some ks => some (k :: ks)
    | _, _ => none
def keyT : D → Option (List Key)
  | .tup ds => keysD ds
  | _ => none
section
variable {c : MC} {b : Bag} {G H : Hp}
theorem rep_key {d : D} {v : V} {k : Key} (r : Rep c G d v) (h : keyD d = some k) : v = kV k := by
  cases d <;> cases h <;> exact r
theorem reps_keys : ∀ {ds : List D} {vs : List V} {ks : List Key}, Reps c G ds vs → keysD ds = some ks → vs = ks.map kV
  | [], vs, ks, r, h => by cases (show vs = [] from r); cases h; rfl
  | d :: ds, vs, ks, r, h => by
    obtain ⟨v, ws, rfl, r1, r2⟩ := r
    simp only [keysD] at h
    split at h
    · rename_i k ks' e1 e2
      cases h
      rw [rep_key r1 e1, reps_keys r2 e2]
      rfl
    · cases h
theorem vw_key {d : D} {v : V} {k : Key} (r : Vw c G H d v) (h : keyD d = some k) : v = kV k := by
  cases d <;> cases h <;> exact r
end
def seqD : D → Option (List D)
  | .tup ds => some ds
  | .kt ds => some ds
  | .lst ds => some ds
  | _ => none
/-- x in y -/
def inG (neg : Bool) (x y : D) : Option D := match y with
  | .tup ds => if flatD x = true ∧ ds.all flatD = true then some (.bl (neg ^^ ds.any fun z => eqv z x)) else none
  | .kt ds => if flatD x = true ∧ ds.all flatD = true then some (.bl (neg ^^ ds.any fun z => eqv z x)) else none
  | .lst ds => if flatD x = true ∧ ds.all flatD = true then some (.bl (neg ^^ ds.any fun z => eqv z x)) else if okD x = true ∧ okD (.lst ds) = true then some (.bl (neg ^^ ds.any fun z => eqv z x)) else none
  | .dK ks ds => (keyD x).map fun k => .bl (neg ^^ (getK ks ds k).isSome)
  | .dT ks ds => (keyT x).map fun k => .bl (neg ^^ (getK ks ds k).isSome)
  | .str z => match x with
    | .str s => if h : s.cps.size = 1 then some (.bl (neg ^^ decide (s.cps[0] ∈ z.cps.toList))) else none
    | _ => none
  | _ => none
section
variable {X : Cx}
theorem op_dIn (hu : X.A.units + 1 < cLine) : OpR X (compareOp .In) (fun y x H Q => ∃ a o, x = .ref a ∧ DGet H a y o ∧ Q (.bl o.isSome) H) := by
  intro pins s σ H y x iv u Q I ry rx h
  obtain ⟨a, ov, rfl, g, q⟩ := h
  obtain rfl : u = Value.ref a := rx
  exact d_in hu I g ry fun s3 I3 => ⟨.bl ov.isSome, H, I3, rfl, q⟩
theorem op_dNotIn (hu : X.A.units + 1 < cLine) : OpR X (compareOp .NotIn) (fun y x H Q => ∃ a o, x = .ref a ∧ DGet H a y o ∧ Q (.bl (!o.isSome)) H) := by
  intro pins s σ H y x iv u Q I ry rx h
  obtain ⟨a, ov, rfl, g, q⟩ := h
  obtain rfl : u = Value.ref a := rx
  exact d_notIn hu I g ry fun s3 I3 => ⟨.bl (!ov.isSome), H, I3, rfl, q⟩
theorem any_py (ds : List D) (x : D) : ((toPys ds).any fun z => PyData.eqv z (toPy x)) = ds.any fun z => eqv z x := by
  rw [toPys_map, List.any_map]
  rfl
/-- what stands at a key -/
theorem vw_dget {c : MC} {b : Bag} {G H : Hp} (w : Wd c b G H) {y : D} {v : V} {ks : List Key} {ds : List D} {k : Key} {vx : V} (ry : Vw c G H y v) (hk : keyD y = some k) (rd : Vw c G H (.dK ks ds) vx) :
    ∃ a, vx = .ref a ∧ (∀ d, getK ks ds k = some d → ∃ z, DGet H a v (some z) ∧ Rep c G d z) ∧ (getK ks ds k = none → DGet H a v none) := by
  obtain ⟨p, vs, rfl, hp, hl, r, _⟩ := rd
  have e := vw_key ry hk
  subst e
  obtain ⟨h1, h2⟩ := getK_rep k r hl
  refine ⟨p, rfl, fun d hd => ?_, fun hn => ?_⟩
  · obtain ⟨z, hz, rz⟩ := h1 d hd
    exact ⟨z, .inl ⟨_, k, hp, rfl, hz.symm⟩, rz⟩
  · exact .inl ⟨_, k, hp, rfl, (h2 hn).symm⟩
theorem vw_dgetT {c : MC} {b : Bag} {G H : Hp} (w : Wd c b G H) {y : D} {v : V} {ks : List (List Key)} {ds : List D} {k : List Key} {vx : V} (ry : Vw c G H y v) (hk : keyT y = some k) (rd : Vw c G H (.dT ks ds) vx) :
    ∃ a, vx = .ref a ∧ (∀ d, getK ks ds k = some d → ∃ z, DGet H a v (some z) ∧ Rep c G d z) ∧ (getK ks ds k = none → DGet H a v none) := by
  obtain ⟨p, vs, rfl, hp, hl, r, _⟩ := rd
  cases y <;> first | (cases hk; done) | skip
  rename_i es
  obtain ⟨q, us, rfl, hq, rq⟩ := ry
  have e := reps_keys rq hk
  subst e
  obtain ⟨h1, h2⟩ := getK_rep k r hl
  refine ⟨p, rfl, fun d hd => ?_, fun hn => ?_⟩
  · obtain ⟨z, hz, rz⟩ := h1 d hd
    exact ⟨z, .inr ⟨_, k, q, hp, rfl, w.tup hq, hz.symm⟩, rz⟩
  · exact .inr ⟨_, k, q, hp, rfl, w.tup hq, (h2 hn).symm⟩
theorem bl_isSome {o : Option D} {x : Option V} (h1 : ∀ d, o = some d → x.isSome = true) (h2 : o = none → x = none) : x.isSome = o.isSome := by
  cases o with
  | none => rw [h2 rfl]; rfl
  | some d => rw [h1 d rfl]; rfl
theorem vw_flat {c : MC} {G H : Hp} {d : D} {v : V} (r : Vw c G H d v) (h : flatD d = true) : Rep c G d v := by
  cases d <;> first | (cases h; done) | exact r
theorem op_inG (hu : X.A.units + 65 < cLine) : OpD X (compareOp .In) (inG false) := by
  intro pins s σ H x y v u Q I rx ry h
  obtain ⟨pb, pg, b, G, dx, dy, d, w, vx, vy, e, q⟩ := h
  have q := fun k (hk : d = .bl k) => q (.bl k) G H (Stp.refl _ _ _) w (by subst hk; rfl)
  cases dy <;> first | (cases e; done) | skip
  · rename_i z
    cases dx <;> first | (cases e; done) | skip
    rename_i sg
    simp only [inG] at e
    split at e
    · rename_i h1
      cases e
      cases (show x = .str sg from vx)
      cases (show y = .str z from vy)
      have es : sg = ⟨#[sg.cps[0]]⟩ := by
        obtain ⟨cps⟩ := sg
        congr 1
        simp at h1 ⊢
        apply Array.ext
        · simpa using h1
        · intro i h2 h3
          simp at h3
          subst h3
          rfl
      refine op_in_sign pins s σ H _ _ v u Q I rx ry ⟨sg.cps[0], z, congrArg V.str es, rfl, q _ (by simp)⟩
    · cases e
  · rename_i ds
    obtain ⟨hf, rfl⟩ := ite_some (c := flatD dx = true ∧ ds.all flatD = true) e
    obtain ⟨p, vs, rfl, hp, r⟩ := vy
    have rx' := vw_flat vx hf.1
    refine op_in_seq pins s σ H x _ v u Q I rx ry ⟨p, vs, rfl, .inr (.inl (.inl (w.tup hp))), rep_flat rx' hf.1, reps_flat r hf.2, q _ ?_⟩
    rw [if_neg Bool.false_ne_true, reps_in rx' hf.1 r hf.2, Bool.false_xor]
  · rename_i ds
    simp only [inG] at e
    obtain ⟨p, vs, rfl, hp, r⟩ := vy
    split at e
    · rename_i hf
      cases e
      have rx' := vw_flat vx hf.1
      refine op_in_seq pins s σ H x _ v u Q I rx ry ⟨p, vs, rfl, .inl hp.l, rep_flat rx' hf.1, reps_flat r hf.2, q _ ?_⟩
      rw [if_neg Bool.false_ne_true, reps_in rx' hf.1 r hf.2, Bool.false_xor]
    · obtain ⟨ok, rfl⟩ := ite_some (c := okD dx = true ∧ okD (.lst ds) = true) e
      have vy' : Vw (cx X.K X.mg pb pg) G H (.lst ds) (.ref p) := ⟨p, vs, rfl, hp, r⟩
      refine op_inD hu pins s σ H x _ v u Q I rx ry ⟨toPy dx, toPys ds, vx.dp w (okD_lay ok.1), vy'.dp w (okD_lay ok.2), ok.1, ok.2, q _ ?_⟩
      rw [any_py, Bool.false_xor]
  · rename_i ds
    obtain ⟨hf, rfl⟩ := ite_some (c := flatD dx = true ∧ ds.all flatD = true) e
    obtain ⟨p, vs, rfl, hp, r⟩ := vy
    have rx' := vw_flat vx hf.1
    refine op_in_seq pins s σ H x _ v u Q I rx ry ⟨p, vs, rfl, .inr (.inr hp), rep_flat rx' hf.1, reps_flat r hf.2, q _ ?_⟩
    rw [if_neg Bool.false_ne_true, reps_in rx' hf.1 r hf.2, Bool.false_xor]
  · rename_i ks ds
    simp only [inG, Option.map_eq_some_iff] at e
    obtain ⟨k, hk, rfl⟩ := e
    obtain ⟨a, rfl, g1, g2⟩ := vw_dget w vx hk vy
    cases hg : getK ks ds k with
    | none => exact op_dIn (by omega) pins s σ H x _ v u Q I rx ry ⟨a, none, rfl, g2 hg, q _ (by rw [hg]; rfl)⟩
    | some d =>
      obtain ⟨z, gz, _⟩ := g1 d hg
      exact op_dIn (by omega) pins s σ H x _ v u Q I rx ry ⟨a, _, rfl, gz, q _ (by rw [hg]; rfl)⟩
  · rename_i ks ds
    simp only [inG, Option.map_eq_some_iff] at e
    obtain ⟨k, hk, rfl⟩ := e
    obtain ⟨a, rfl, g1, g2⟩ := vw_dgetT w vx hk vy
    cases hg : getK ks ds k with
    | none => exact op_dIn (by omega) pins s σ H x _ v u Q I rx ry ⟨a, none, rfl, g2 hg, q _ (by rw [hg]; rfl)⟩
    | some d =>
      obtain ⟨z, gz, _⟩ := g1 d hg
      exact op_dIn (by omega) pins s σ H x _ v u Q I rx ry ⟨a, _, rfl, gz, q _ (by rw [hg]; rfl)⟩
theorem op_ninG (hu : X.A.units + 65 < cLine) : OpD X (compareOp .NotIn) (inG true) := by
  intro pins s σ H x y v u Q I rx ry h
  obtain ⟨pb, pg, b, G, dx, dy, d, w, vx, vy, e, q⟩ := h
  have q := fun k (hk : d = .bl k) => q (.bl k) G H (Stp.refl _ _ _) w (by subst hk; rfl)
  cases dy <;> first | (cases e; done) | skip
  · rename_i z
    cases dx <;> first | (cases e; done) | skip
    rename_i sg
    simp only [inG] at e
    split at e
    · rename_i h1
      cases e
      cases (show x = .str sg from vx)
      cases (show y = .str z from vy)
      have es : sg = ⟨#[sg.cps[0]]⟩ := by
        obtain ⟨cps⟩ := sg
        congr 1
        simp at h1 ⊢
        apply Array.ext
        · simpa using h1
        · intro i h2 h3
          simp at h3
          subst h3
          rfl
      refine op_notIn_sign pins s σ H _ _ v u Q I rx ry ⟨sg.cps[0], z, congrArg V.str es, rfl, q _ (by simp)⟩
    · cases e
  · rename_i ds
    obtain ⟨hf, rfl⟩ := ite_some (c := flatD dx = true ∧ ds.all flatD = true) e
    obtain ⟨p, vs, rfl, hp, r⟩ := vy
    have rx' := vw_flat vx hf.1
    refine op_notIn_seq pins s σ H x _ v u Q I rx ry ⟨p, vs, rfl, .inr (.inl (.inl (w.tup hp))), rep_flat rx' hf.1, reps_flat r hf.2, q _ ?_⟩
    rw [if_pos rfl, reps_in rx' hf.1 r hf.2, Bool.true_xor]
  · rename_i ds
    simp only [inG] at e
    obtain ⟨p, vs, rfl, hp, r⟩ := vy
    split at e
    · rename_i hf
      cases e
      have rx' := vw_flat vx hf.1
      refine op_notIn_seq pins s σ H x _ v u Q I rx ry ⟨p, vs, rfl, .inl hp.l, rep_flat rx' hf.1, reps_flat r hf.2, q _ ?_⟩
      rw [if_pos rfl, reps_in rx' hf.1 r hf.2, Bool.true_xor]
    · obtain ⟨ok, rfl⟩ := ite_some (c := okD dx = true ∧ okD (.lst ds) = true) e
      have vy' : Vw (cx X.K X.mg pb pg) G H (.lst ds) (.ref p) := ⟨p, vs, rfl, hp, r⟩
      refine op_notInD hu pins s σ H x _ v u Q I rx ry ⟨toPy dx, toPys ds, vx.dp w (okD_lay ok.1), vy'.dp w (okD_lay ok.2), ok.1, ok.2, q _ ?_⟩
      rw [any_py, Bool.true_xor]
  · rename_i ds
    obtain ⟨hf, rfl⟩ := ite_some (c := flatD dx = true ∧ ds.all flatD = true) e
    obtain ⟨p, vs, rfl, hp, r⟩ := vy
    have rx' := vw_flat vx hf.1
    refine op_notIn_seq pins s σ H x _ v u Q I rx ry ⟨p, vs, rfl, .inr (.inr hp), rep_flat rx' hf.1, reps_flat r hf.2, q _ ?_⟩
    rw [if_pos rfl, reps_in rx' hf.1 r hf.2, Bool.true_xor]
  · rename_i ks ds
    simp only [inG, Option.map_eq_some_iff] at e
    obtain ⟨k, hk, rfl⟩ := e
    obtain ⟨a, rfl, g1, g2⟩ := vw_dget w vx hk vy
    cases hg : getK ks ds k with
    | none => exact op_dNotIn (by omega) pins s σ H x _ v u Q I rx ry ⟨a, none, rfl, g2 hg, q _ (by rw [hg]; rfl)⟩
    | some d =>
      obtain ⟨z, gz, _⟩ := g1 d hg
      exact op_dNotIn (by omega) pins s σ H x _ v u Q I rx ry ⟨a, _, rfl, gz, q _ (by rw [hg]; rfl)⟩
  · rename_i ks ds
    simp only [inG, Option.map_eq_some_iff] at e
    obtain ⟨k, hk, rfl⟩ := e
    obtain ⟨a, rfl, g1, g2⟩ := vw_dgetT w vx hk vy
    cases hg : getK ks ds k with
    | none => exact op_dNotIn (by omega) pins s σ H x _ v u Q I rx ry ⟨a, none, rfl, g2 hg, q _ (by rw [hg]; rfl)⟩
    | some d =>
      obtain ⟨z, gz, _⟩ := g1 d hg
      exact op_dNotIn (by omega) pins s σ H x _ v u Q I rx ry ⟨a, _, rfl, gz, q _ (by rw [hg]; rfl)⟩
end
end Mr

set_option Elab.async false
set_option linter.all false
set_option maxRecDepth 100000
namespace Mr
open PySem PySem.Spec L2
section
variable {X : Cx} {E : XK} {e a b c : Expr} {es : List Expr} {ma mb mc : ME} {mr : MA} {mt mu : MT} {pos : Pos}

/-! ### len -/
def lenG : List D → Option D
  | [.tup ds] => some (.int ds.length)
  | [.kt ds] => some (.int ds.length)
  | [.lst ds] => some (.int ds.length)
  | [.str x] => if x.length ≤ 100000 then some (.int x.length) else none
  | [.dK ks _] => some (.int ks.length)
  | [.dT ks _] => some (.int ks.length)
  | _ => none
theorem call_lenDR : CallR X (.builtin "len") (fun xs H Q => ∃ a kvs, xs = [V.ref a] ∧ Rd H a (.dK kvs) ∧ Q (.int kvs.length) H) := by
  intro pins s σ H xs us Q I r h
  obtain ⟨a, kvs, rfl, ha, q⟩ := h
  obtain ⟨u, rfl, ru⟩ := vals1 r
  cases ru
  exact d_len I ha fun t s' I' => ⟨.int kvs.length, H, I', ⟨t, rfl⟩, q⟩
theorem call_lenTR : CallR X (.builtin "len") (fun xs H Q => ∃ (p : Addr) (kvs : List (List Key × V)), xs = [.ref p] ∧ Rd H p (.dT kvs) ∧ Q (.int ((kvs.length : Nat) : Int)) H) := by
  intro pins s σ H xs us Q I r h
  obtain ⟨p, kvs, rfl, hp, q⟩ := h
  obtain ⟨u, rfl, rx⟩ := vals1 r
  obtain rfl : u = .ref p := rx
  obtain ⟨z, hd, ys, rel, dd⟩ := dt_rd I.hok hp
  have hl : kvs.length = ys.length := Paired.length rel
  refine call_len_dictH hd dd (by rw [← hl]; rw [sizeLine_eq] at z; omega) ?_
  rw [← hl]
  exact ⟨.int ((kvs.length : Nat) : Int), H, I.tok _, ⟨_, rfl⟩, q⟩
theorem zip_len {κ : Type} {ks : List κ} {vs : List V} (l : ks.length = vs.length) : (ks.zip vs).length = ks.length := by
  rw [List.length_zip]; omega
theorem vws1 {c : MC} {G H : Hp} {d : D} {xs : List V} (h : Vws c G H [d] xs) : ∃ v, xs = [v] ∧ Vw c G H d v := by
  obtain ⟨v, ws, rfl, h1, h2⟩ := h
  cases (show ws = [] from h2)
  exact ⟨v, rfl, h1⟩
theorem vws2 {c : MC} {G H : Hp} {d e : D} {xs : List V} (h : Vws c G H [d, e] xs) : ∃ v w, xs = [v, w] ∧ Vw c G H d v ∧ Vw c G H e w := by
  obtain ⟨v, ws, rfl, h1, h2⟩ := h
  obtain ⟨w, rfl, h3⟩ := vws1 h2
  exact ⟨v, w, rfl, h1, h3⟩
theorem call_lenG : CallD X (.builtin "len") lenG := by
  intro pins s σ H xs us Q I r h
  obtain ⟨pb, pg, b, G, dxs, d, w, vx, e, q⟩ := h
  match dxs, vx, e with
  | [d1], vx, e =>
    obtain ⟨v, rfl, vz⟩ := vws1 vx
    have q' := fun k (hk : d = .int k) => q (.int k) G H (Stp.refl _ _ _) w (by subst hk; rfl)
    cases d1 <;> first | (cases e; done) | skip
    · rename_i x
      obtain ⟨hz, rfl⟩ := ite_some (c := x.length ≤ 100000) (a := D.int x.length) e
      cases (show v = .str x from vz)
      exact call_len pins s σ H _ us Q I r ⟨.str x, x.length, rfl, ⟨sz_of hz, rfl⟩, q' _ rfl⟩
    · cases e
      obtain ⟨p, vs, rfl, hp, rr⟩ := vz
      exact call_len pins s σ H _ us Q I r ⟨.ref p, vs.length, rfl, .inr ⟨vs, .inl (.inl (w.tup hp)), rfl⟩, q' _ (by rw [rr.len])⟩
    · cases e
      obtain ⟨p, vs, rfl, hp, rr⟩ := vz
      exact call_len pins s σ H _ us Q I r ⟨.ref p, vs.length, rfl, .inl ⟨vs, hp.l, rfl⟩, q' _ (by rw [rr.len])⟩
    · cases e
      obtain ⟨p, vs, rfl, hp, rr⟩ := vz
      exact call_len pins s σ H _ us Q I r ⟨.ref p, vs.length, rfl, .inr ⟨vs, .inr hp, rfl⟩, q' _ (by rw [rr.len])⟩
    · cases e
      obtain ⟨p, vs, rfl, hp, hl, rr⟩ := vz
      exact call_lenDR pins s σ H _ us Q I r ⟨p, _, rfl, hp, q' _ (by rw [zip_len hl])⟩
    · cases e
      obtain ⟨p, vs, rfl, hp, hl, rr⟩ := vz
      exact call_lenTR pins s σ H _ us Q I r ⟨p, _, rfl, hp, q' _ (by rw [zip_len hl])⟩
  | [], _, e => cases e
  | d1 :: d2 :: ds, _, e => cases d1 <;> cases e

/-! ### numbers -/
def absG : List D → Option D
  | [.int i] => some (.int (if i < 0 then -i else i))
  | _ => none
def max2G : List D → Option D
  | [.int i, .int j] => some (.int (if j > i then j else i))
  | _ => none
def min2G : List D → Option D
  | [.int i, .int j] => some (.int (if j < i then j else i))
  | _ => none
def intG : List D → Option D
  | [.int i] => some (.int i)
  | [.bl k] => some (.int (if k then 1 else 0))
  | _ => none
def boolG : List D → Option D
  | [.int i] => some (.bl (i != 0))
  | [.bl k] => some (.bl k)
  | _ => none
theorem call_absG : CallD X (.builtin "abs") absG := by
  intro pins s σ H xs us Q I r h
  obtain ⟨pb, pg, b, G, dxs, d, w, vx, e, q⟩ := h
  unfold absG at e
  split at e
  · rename_i i
    obtain ⟨v, rfl, vz⟩ := vws1 vx
    cases (show v = .int i from vz)
    cases e
    exact call_abs pins s σ H _ us Q I r ⟨i, rfl, q _ G H (Stp.refl _ _ _) w rfl⟩
  · cases e
theorem call_max2G (hc : X.calm = true) : CallD X (.builtin "max") max2G := by
  intro pins s σ H xs us Q I r h
  obtain ⟨pb, pg, b, G, dxs, d, w, vx, e, q⟩ := h
  unfold max2G at e
  split at e
  · rename_i i j
    obtain ⟨v, u, rfl, vz, vy⟩ := vws2 vx
    cases (show v = .int i from vz)
    cases (show u = .int j from vy)
    cases e
    exact call_max2 hc pins s σ H _ us Q I r ⟨i, j, rfl, q _ G H (Stp.refl _ _ _) w rfl⟩
  · cases e
theorem call_min2G (hc : X.calm = true) : CallD X (.builtin "min") min2G := by
  intro pins s σ H xs us Q I r h
  obtain ⟨pb, pg, b, G, dxs, d, w, vx, e, q⟩ := h
  unfold min2G at e
  split at e
  · rename_i i j
    obtain ⟨v, u, rfl, vz, vy⟩ := vws2 vx
    cases (show v = .int i from vz)
    cases (show u = .int j from vy)
    cases e
    exact call_min2 hc pins s σ H _ us Q I r ⟨i, j, rfl, q _ G H (Stp.refl _ _ _) w rfl⟩
  · cases e
theorem call_intG : CallD X (.type "int") intG := by
  intro pins s σ H xs us Q I r h
  obtain ⟨pb, pg, b, G, dxs, d, w, vx, e, q⟩ := h
  unfold intG at e
  split at e
  · rename_i i
    obtain ⟨v, rfl, vz⟩ := vws1 vx
    cases (show v = .int i from vz)
    cases e
    exact call_int1 pins s σ H _ us Q I r (.inl ⟨i, rfl, q _ G H (Stp.refl _ _ _) w rfl⟩)
  · rename_i i
    obtain ⟨v, rfl, vz⟩ := vws1 vx
    cases (show v = .bl i from vz)
    cases e
    exact call_int1 pins s σ H _ us Q I r (.inr ⟨i, rfl, q _ G H (Stp.refl _ _ _) w rfl⟩)
  · cases e
theorem call_boolG : CallD X (.type "bool") boolG := by
  intro pins s σ H xs us Q I r h
  obtain ⟨pb, pg, b, G, dxs, d, w, vx, e, q⟩ := h
  unfold boolG at e
  split at e
  · rename_i i
    obtain ⟨v, rfl, vz⟩ := vws1 vx
    cases (show v = .int i from vz)
    cases e
    exact call_bool1 pins s σ H _ us Q I r (.inl ⟨i, rfl, q _ G H (Stp.refl _ _ _) w rfl⟩)
  · rename_i i
    obtain ⟨v, rfl, vz⟩ := vws1 vx
    cases (show v = .bl i from vz)
    cases e
    exact call_bool1 pins s σ H _ us Q I r (.inr ⟨i, rfl, q _ G H (Stp.refl _ _ _) w rfl⟩)
  · cases e

/-! ### all, any, sum, max, min of a list -/
def blsD : List D → Option (List Bool)
  | [] => some []
  | .bl k :: ds => (blsD ds).map (k :: ·)
  | _ :: _ => none
def intsD : List D → Option (List Int)
  | [] => some []
  | .int k :: ds => (intsD ds).map (k :: ·)
  | _ :: _ => none
theorem blsD_rep {c : MC} {G : Hp} : ∀ {ds : List D} {vs : List V} {bs : List Bool}, Reps c G ds vs → blsD ds = some bs → vs = bs.map V.bl
  | [], vs, bs, r, h => by cases (show vs = [] from r); cases h; rfl
  | d :: ds, vs, bs, r, h => by
    obtain ⟨v, ws, rfl, r1, r2⟩ := r
    cases d <;> first | (cases h; done) | skip
    simp only [blsD, Option.map_eq_some_iff] at h
    obtain ⟨bs', h, rfl⟩ := h
    rw [blsD_rep r2 h, (show v = .bl _ from r1)]
    rfl
theorem intsD_rep {c : MC} {G : Hp} : ∀ {ds : List D} {vs : List V} {bs : List Int}, Reps c G ds vs → intsD ds = some bs → vs = bs.map V.int
  | [], vs, bs, r, h => by cases (show vs = [] from r); cases h; rfl
  | d :: ds, vs, bs, r, h => by
    obtain ⟨v, ws, rfl, r1, r2⟩ := r
    cases d <;> first | (cases h; done) | skip
    simp only [intsD, Option.map_eq_some_iff] at h
    obtain ⟨bs', h, rfl⟩ := h
    rw [intsD_rep r2 h, (show v = .int _ from r1)]
    rfl
theorem intsD_map (ns : List Int) : intsD (ns.map D.int) = some ns := by
  induction ns with
  | nil => rfl
  | cons n ns ih => simp [intsD, ih]
theorem blsD_map (ns : List Bool) : blsD (ns.map D.bl) = some ns := by
  induction ns with
  | nil => rfl
  | cons n ns ih => simp [blsD, ih]
def allG : List D → Option D
  | [.lst ds] => (blsD ds).map fun bs => .bl (bs.all id)
  | _ => none
def anyG : List D → Option D
  | [.lst ds] => (blsD ds).map fun bs => .bl (bs.any id)
  | _ => none
def sumG : List D → Option D
  | [.lst ds] => (intsD ds).map fun bs => .int bs.sum
  | _ => none
theorem call_allG (hc : X.calm = true) : CallD X (.builtin "all") allG := by
  intro pins s σ H xs us Q I r h
  obtain ⟨pb, pg, b, G, dxs, d, w, vx, e, q⟩ := h
  unfold allG at e
  split at e
  · rename_i ds
    obtain ⟨v, rfl, p, vs, rfl, hp, rr⟩ := vws1 vx
    simp only [Option.map_eq_some_iff] at e
    obtain ⟨bs, hb, rfl⟩ := e
    cases blsD_rep rr hb
    exact cr_all hc pins s σ H _ us Q I r ⟨p, bs, rfl, hp.l, q _ G H (Stp.refl _ _ _) w rfl⟩
  · cases e
theorem call_anyG (hc : X.calm = true) : CallD X (.builtin "any") anyG := by
  intro pins s σ H xs us Q I r h
  obtain ⟨pb, pg, b, G, dxs, d, w, vx, e, q⟩ := h
  unfold anyG at e
  split at e
  · rename_i ds
    obtain ⟨v, rfl, p, vs, rfl, hp, rr⟩ := vws1 vx
    simp only [Option.map_eq_some_iff] at e
    obtain ⟨bs, hb, rfl⟩ := e
    cases blsD_rep rr hb
    exact cr_any hc pins s σ H _ us Q I r ⟨p, bs, rfl, hp.l, q _ G H (Stp.refl _ _ _) w rfl⟩
  · cases e
theorem call_sumG (hc : X.calm = true) : CallD X (.builtin "sum") sumG := by
  intro pins s σ H xs us Q I r h
  obtain ⟨pb, pg, b, G, dxs, d, w, vx, e, q⟩ := h
  unfold sumG at e
  split at e
  · rename_i ds
    obtain ⟨v, rfl, p, vs, rfl, hp, rr⟩ := vws1 vx
    simp only [Option.map_eq_some_iff] at e
    obtain ⟨bs, hb, rfl⟩ := e
    cases intsD_rep rr hb
    exact cr_sum hc pins s σ H _ us Q I r ⟨p, bs, rfl, hp.l, q _ G H (Stp.refl _ _ _) w rfl⟩
  · cases e

/-! ### tuple, list -/
def tupleG : List D → Option D
  | [.lst ds] => some (.tup ds)
  | [.tup ds] => some (.tup ds)
  | _ => none
def listG : List D → Option D
  | [.lst ds] => some (.lst ds)
  | [.tup ds] => some (.lst ds)
  | [.kt ds] => some (.lst ds)
  | _ => none
theorem call_tupleG : CallD X (.type "tuple") tupleG := by
  intro pins s σ H xs us Q I r h
  obtain ⟨pb, pg, b, G, dxs, d, w, vx, e, q⟩ := h
  unfold tupleG at e
  split at e
  · rename_i ds
    obtain ⟨v, rfl, p, vs, rfl, hp, rr⟩ := vws1 vx
    cases e
    refine call_tuple_of pins s σ H _ us Q I r ⟨p, vs, rfl, .inl ⟨hp.l, fun l hl => ?_⟩⟩
    obtain ⟨s2, w2⟩ := Stp.new (o := .tup vs) w hl
    exact q _ _ _ s2 w2 ⟨l, vs, rfl, upd_same, rr.mono s2.g⟩
  · rename_i ds
    obtain ⟨v, rfl, p, vs, rfl, hp, rr⟩ := vws1 vx
    cases e
    exact call_tuple_of pins s σ H _ us Q I r ⟨p, vs, rfl, .inr ⟨.inl (.inl (w.tup hp)), q _ G H (Stp.refl _ _ _) w ⟨p, vs, rfl, hp, rr⟩⟩⟩
  · cases e
theorem pF_new {c : MC} {b : Bag} {G H : Hp} {ds : List D} {vs : List V} (w : Wd c b G H) (rr : Reps c G ds vs) {l : Addr} (hl : H l = none) {Q : VK} (q : ∀ v G' H', Stp c G H G' H' → Wd c b G' H' → pF c H G' H' (.lst ds) v → Q v H') : Q (.ref l) (upd H l (.lst vs)) := by
  obtain ⟨s2, w2, g2⟩ := Stp.newO (o := .lst vs) w hl
  exact q _ _ _ s2 w2 ⟨l, vs, rfl, upd_same, g2, hl, rr⟩
theorem call_listG : CallF X (.type "list") listG := by
  intro pins s σ H xs us Q I r h
  obtain ⟨pb, pg, b, G, dxs, d, w, vx, e, q⟩ := h
  unfold listG at e
  split at e
  · rename_i ds
    obtain ⟨v, rfl, p, vs, rfl, hp, rr⟩ := vws1 vx
    cases e
    exact call_list_of pins s σ H _ us Q I r ⟨p, vs, rfl, .inl hp.l, fun l hl => pF_new w rr hl q⟩
  · rename_i ds
    obtain ⟨v, rfl, p, vs, rfl, hp, rr⟩ := vws1 vx
    cases e
    exact call_list_of pins s σ H _ us Q I r ⟨p, vs, rfl, .inr (.inl (.inl (w.tup hp))), fun l hl => pF_new w rr hl q⟩
  · rename_i ds
    obtain ⟨v, rfl, p, vs, rfl, hp, rr⟩ := vws1 vx
    cases e
    exact call_list_of pins s σ H _ us Q I r ⟨p, vs, rfl, .inr (.inr hp), fun l hl => pF_new w rr hl q⟩
  · cases e

/-! ### subscripts -/
def ixG (x y : D) : Option D := match x, y with
  | .tup ds, .int i => atI ds i
  | .kt ds, .int i => atI ds i
  | .lst ds, .int i => atI ds i
  | .str z, .int i => if z.length ≤ 100000 then (atI z.cps.toList i).map fun c => .str ⟨#[c]⟩ else none
  | _, _ => none
theorem atI_rep {c : MC} {G : Hp} {ds : List D} {vs : List V} {i : Int} {d : D} (r : Reps c G ds vs) (h : atI ds i = some d) : ∃ v, atI vs i = some v ∧ Rep c G d v := by
  unfold atI at h ⊢
  rw [← r.len]
  cases hx : ixN ds.length i with
  | none => rw [hx] at h; cases h
  | some j =>
    rw [hx] at h
    exact r.get h
theorem ix_G : IxR X (rD2 X.K X.mg ixG) := by
  intro value slice pins s σ H x y v u Q I rx ry h hs
  obtain ⟨pb, pg, b, G, dx, dy, d, w, vx, vy, e, q⟩ := h
  cases dx <;> cases dy <;> first | (cases e; done) | skip
  all_goals cases (show y = .int _ from vy)
  · rename_i z i
    obtain ⟨hz, e⟩ : z.length ≤ 100000 ∧ (atI z.cps.toList i).map (fun c => D.str ⟨#[c]⟩) = some d := by
      simp only [ixG] at e
      split at e
      · exact ⟨by assumption, e⟩
      · cases e
    simp only [Option.map_eq_some_iff] at e
    obtain ⟨cc, hc, rfl⟩ := e
    cases (show x = .str z from vx)
    exact ix_str value slice pins s σ H _ _ v u Q I rx ry ⟨z, i, cc, rfl, rfl, sz_of hz, hc, q _ G H (Stp.refl _ _ _) w rfl⟩ hs
  · obtain ⟨p, vs, rfl, hp, rr⟩ := vx
    obtain ⟨z, hz, rz⟩ := atI_rep rr e
    exact ix_tup value slice pins s σ H _ _ v u Q I rx ry ⟨p, vs, _, z, rfl, rfl, .inl (.inl (w.tup hp)), hz, q _ G H (Stp.refl _ _ _) w rz⟩ hs
  · obtain ⟨p, vs, rfl, hp, rr⟩ := vx
    obtain ⟨z, hz, rz⟩ := atI_rep rr e
    exact ix_list value slice pins s σ H _ _ v u Q I rx ry ⟨p, vs, _, z, rfl, rfl, hp.l, hz, q _ G H (Stp.refl _ _ _) w rz⟩ hs
  · obtain ⟨p, vs, rfl, hp, rr⟩ := vx
    obtain ⟨z, hz, rz⟩ := atI_rep rr e
    exact ix_tup value slice pins s σ H _ _ v u Q I rx ry ⟨p, vs, _, z, rfl, rfl, .inr hp, hz, q _ G H (Stp.refl _ _ _) w rz⟩ hs
theorem de_ix (ha : DV X E a ma) (hb : DV X E b mb) (hs : PlainIx b := by exact fun _ _ => rfl) : DE X E (.Subscript a b pos) (m2 ixG ma mb) := PE.imp (pe_ix ix_G ha hb hs) fun _ _ _ h => read2 h
/-- d[k] -/
def dgetG (x y : D) : Option D := match x with
  | .dK ks ds => (keyD y).bind fun k => getK ks ds k
  | .dT ks ds => (keyT y).bind fun k => getK ks ds k
  | _ => none
theorem readDG {K : PySem.W.Frag} {mg : Str → Option Value} {σ : L2.St} {H : Hp} {Q : VK} (h : tM K mg E (m2 dgetG ma mb) σ H Q) : tDGet (tV K mg E ma) (tV K mg E mb) σ H Q := by
  obtain ⟨pb, pg, H0, env, b, G, w, ev, q⟩ := h
  refine ⟨pb, pg, H0, env, b, G, w, ev, PstG.bind q fun a1 b1 v1 G1 H1 s1 w1 p1 q1 => ?_⟩
  refine ⟨pb, pg, H0, env, b1, G1, w1, ev.step s1, PstG.bind q1 fun a2 b2 v2 G2 H2 s2 w2 p2 q2 => ?_⟩
  cases hg : dgetG a1 a2 with
  | none => rw [hg] at q2; exact q2.elim
  | some d =>
    rw [hg] at q2
    cases a1 <;> first | (cases hg; done) | skip
    · simp only [dgetG, Option.bind_eq_some_iff] at hg
      obtain ⟨k, hk, hg⟩ := hg
      obtain ⟨x, rfl, g1, _⟩ := vw_dget w2 p2 hk (p1.mono s2)
      obtain ⟨z, gz, rz⟩ := g1 d hg
      exact ⟨x, z, rfl, gz, q2 z G2 H2 (Stp.refl _ _ _) w2 rz⟩
    · simp only [dgetG, Option.bind_eq_some_iff] at hg
      obtain ⟨k, hk, hg⟩ := hg
      obtain ⟨x, rfl, g1, _⟩ := vw_dgetT w2 p2 hk (p1.mono s2)
      obtain ⟨z, gz, rz⟩ := g1 d hg
      exact ⟨x, z, rfl, gz, q2 z G2 H2 (Stp.refl _ _ _) w2 rz⟩
theorem de_dget (hu : X.A.units + 65 < cLine) (ha : DV X E a ma) (hb : DV X E b mb) (hs : NoSl b := by exact fun _ _ => rfl) : DE X E (.Subscript a b pos) (m2 dgetG ma mb) :=
  PE.imp (pe_dget (by omega) ha hb hs) fun _ _ _ h => readDG h

/-! ### slices -/
abbrev MO := Ev → Bag → R (Option Int)
def oNo : MO := fun _ b => .ok none b
def asI : D → Option Int
  | .int i => some i
  | _ => none
def oSo (m : ME) : MO := fun env b => (m env b).bind fun x b => R.opt ((asI x).map some) b
def cutD (ds : List D) (lo hi : Option Int) : List D := (ds.drop (HT.sIx ds.length 0 lo)).take (HT.sIx ds.length ds.length hi - HT.sIx ds.length 0 lo)
def slG (x : D) (lo hi : Option Int) : Option D := match x with
  | .tup ds => some (.tup (cutD ds lo hi))
  | .lst ds => some (.lst (cutD ds lo hi))
  | _ => none
def mSl (ma : ME) (ml mh : MO) : ME := fun env b => (ma env b).bind fun x b => (ml env b).bind fun l b => (mh env b).bind fun h b => R.opt (slG x l h) b
def tO (K : PySem.W.Frag) (mg : Str → Option Value) (E : XK) (m : MO) : TO := fun σ H Q => ∃ pb pg H0 env b G, Wd (cx K mg pb pg) b G H ∧ EvOk (cx K mg pb pg) H0 G H env σ ∧ PstG (cx K mg pb pg) E G H (fun _ _ a v => v = a) Q (m env b)
abbrev DO (X : Cx) (E : XK) (e : Option Expr) (m : MO) : Prop := PO X e (tO X.K X.mg E m)
theorem PO.imp {X : Cx} {e : Option Expr} {t t' : TO} (h : PO X e t) (k : ∀ σ H Q, t' σ H Q → t σ H Q) : PO X e t' := ⟨fun pins s σ H Q I hq => h.run pins s σ H Q I (k _ _ _ hq)⟩
theorem do_no : DO X E none oNo := PO.imp po_none fun σ H Q ⟨pb, pg, H0, env, b, G, w, ev, q⟩ => q none G H (Stp.refl _ _ _) w rfl
theorem do_so (h : DE X E e ma) : DO X E (some e) (oSo ma) := PO.imp (po_some h) fun σ H Q ⟨pb, pg, H0, env, b, G, w, ev, q⟩ => ⟨pb, pg, H0, env, b, G, w, ev, PstG.bind q fun a1 b1 v1 G1 H1 s1 w1 p1 q1 => by
  cases a1 with
  | int i => exact ⟨i, p1, q1 (some i) G1 H1 (Stp.refl _ _ _) w1 rfl⟩
  | _ => exact q1.elim⟩
theorem cut_rep {c : MC} {G : Hp} {ds : List D} {vs : List V} (r : Reps c G ds vs) (lo hi : Option Int) : Reps c G (cutD ds lo hi) (cutV vs lo hi) := by
  unfold cutD cutV
  rw [r.len]
  exact Reps.take _ (Reps.drop _ r)
theorem cut_whole {ds : List D} {lo hi : Option Int} (h : HT.sIx ds.length 0 lo = 0 ∧ HT.sIx ds.length ds.length hi = ds.length) : cutD ds lo hi = ds := by
  unfold cutD
  rw [h.1, h.2]
  simp
def rSlG (K : PySem.W.Frag) (mg : Str → Option Value) : V → Option Int → Option Int → Hp → VK → Prop := fun x lo hi H Q => ∃ pb pg b G dx d, Wd (cx K mg pb pg) b G H ∧ Vw (cx K mg pb pg) G H dx x ∧ slG dx lo hi = some d ∧
  ∀ v G' H', Stp (cx K mg pb pg) G H G' H' → Wd (cx K mg pb pg) b G' H' → Rep (cx K mg pb pg) G' d v → Q v H'
theorem sl_G : SlR X (rSlG X.K X.mg) := by
  intro pins s σ H x v vl vu lo hi sl Q I rx hs pl pu h
  obtain ⟨pb, pg, b, G, dx, d, w, vx, e, q⟩ := h
  cases dx <;> first | (cases e; done) | skip
  · cases e
    obtain ⟨p, vs, rfl, hp, rr⟩ := vx
    refine sl_tupA pins s σ H _ v vl vu lo hi sl Q I rx hs pl pu ⟨p, vs, rfl, .inl (.inl (w.tup hp)), fun z => ?_, fun _ p2 hp2 => ?_⟩
    · rw [← rr.len] at z
      rw [cut_whole z] at q
      exact q _ G H (Stp.refl _ _ _) w ⟨p, vs, rfl, hp, rr⟩
    · obtain ⟨s2, w2⟩ := Stp.new (o := .tup (cutV vs lo hi)) w hp2
      exact q _ _ _ s2 w2 ⟨p2, _, rfl, upd_same, (cut_rep rr lo hi).mono s2.g⟩
  · cases e
    obtain ⟨p, vs, rfl, hp, rr⟩ := vx
    refine sl_list pins s σ H _ v vl vu lo hi sl Q I rx hs pl pu ⟨p, vs, rfl, hp.l, fun p2 hp2 => ?_⟩
    obtain ⟨s2, w2⟩ := Stp.new (o := .lst (cutV vs lo hi)) w hp2
    exact q _ _ _ s2 w2 ⟨p2, _, rfl, upd_same, (cut_rep rr lo hi).mono s2.g⟩
theorem de_sl {lo hi : Option Expr} {ml mh : MO} {p2 : Pos} (ha : DV X E a ma) (hl : DO X E lo ml) (hh : DO X E hi mh) : DE X E (.Subscript a (.Slice lo hi none p2) pos) (mSl ma ml mh) :=
  PE.imp (pe_slice sl_G ha hl hh) fun σ H Q ⟨pb, pg, H0, env, b, G, w, ev, q⟩ => ⟨pb, pg, H0, env, b, G, w, ev, PstG.bind q fun a1 b1 v1 G1 H1 s1 w1 p1 q1 =>
    ⟨pb, pg, H0, env, b1, G1, w1, ev.step s1, PstG.bind q1 fun a2 b2 v2 G2 H2 s2 w2 p2 q2 =>
      ⟨pb, pg, H0, env, b2, G2, w2, (ev.step s1).step s2, PstG.bind q2 fun a3 b3 v3 G3 H3 s3 w3 p3 q3 => by
        cases (show v2 = a2 from p2)
        cases (show v3 = a3 from p3)
        cases hg : slG a1 a2 a3 with
        | none => rw [hg] at q3; exact q3.elim
        | some d => rw [hg] at q3; exact ⟨pb, pg, b3, G3, a1, d, w3, (p1.mono s2).mono s3, hg, q3⟩⟩⟩⟩

/-! ### displays -/
def tupG (ds : List D) : Option D := some (.tup ds)
def mTup (ma : MA) : ME := fun env b => (ma env b).bind fun xs b => if xs.length ≤ 100000 then .ok (.tup xs) b else .stuck
def mLst (ma : MA) : ME := fun env b => (ma env b).bind fun xs b => if xs.length ≤ 100000 then .ok (.lst xs) b else .stuck
theorem de_tup {k : Nat} (h : DA X E es mr) : DE X E (.Tuple es k pos) (mTup mr) := PE.imp (pe_tup h) fun σ H Q ⟨pb, pg, H0, env, b, G, w, ev, q⟩ => ⟨pb, pg, H0, env, b, G, w, ev, PstG.bind q fun a1 b1 v1 G1 H1 s1 w1 p1 q1 => by
  split at q1
  · rename_i hz
    refine ⟨sz_of (by rw [← p1.len]; exact hz), fun p hp => ?_⟩
    obtain ⟨s2, w2⟩ := Stp.new (o := .tup v1) w1 hp
    exact q1 _ _ _ s2 w2 ⟨p, _, rfl, upd_same, p1.mono s2.g⟩
  · exact q1.elim⟩
theorem df_lst (h : DA X E es mr) : DF X E (.List es pos) (mLst mr) := PE.imp (pe_lst h) fun σ H Q ⟨pb, pg, H0, env, b, G, w, ev, q⟩ => ⟨pb, pg, H0, env, b, G, w, ev, PstG.bind q fun a1 b1 v1 G1 H1 s1 w1 p1 q1 => by
  split at q1
  · rename_i hz
    refine ⟨sz_of (by rw [← p1.len]; exact hz), fun p hp => ?_⟩
    exact pF_new w1 p1 hp fun v G' H' s' w' f' => q1 v G' H' s' w' (pF.weak s1.dm f')
  · exact q1.elim⟩
/-- {} -/
theorem df_dK : DF X E (.Dict [] [] pos) (mC (.dK [] [])) := PE.imp pe_dnewK fun σ H Q ⟨pb, pg, H0, env, b, G, w, ev, q⟩ p hp => by
  obtain ⟨s2, w2, g2⟩ := Stp.newO (o := .dK []) w hp
  exact q _ _ _ s2 w2 ⟨p, [], rfl, upd_same, rfl, g2, hp, .nil⟩
theorem df_dT : DF X E (.Dict [] [] pos) (mC (.dT [] [])) := PE.imp pe_dnewT fun σ H Q ⟨pb, pg, H0, env, b, G, w, ev, q⟩ p hp => by
  obtain ⟨s2, w2, g2⟩ := Stp.newO (o := .dT []) w hp
  exact q _ _ _ s2 w2 ⟨p, [], rfl, upd_same, rfl, g2, hp, .nil⟩

/-! ### isinstance -/
def tyD : D → Option String
  | .non => some "NoneType"
  | .bl _ => some "bool"
  | .int _ => some "int"
  | .str _ => some "str"
  | .tup _ => some "tuple"
  | .kt _ => some "tuple"
  | .lst _ => some "list"
  | .dK _ _ => some "dict"
  | _ => none
theorem vw_ty {c : MC} {b : Bag} {G H : Hp} (w : Wd c b G H) {d : D} {v : V} {t : String} (r : Vw c G H d v) (h : tyD d = some t) : TyX c.K H v (.type t) := by
  cases d <;> first | (cases h; done) | skip
  all_goals cases h
  · cases (show v = .non from r); exact .base .non
  · cases (show v = .bl _ from r); exact .base (.bl _)
  · cases (show v = .int _ from r); exact .base (.int _)
  · cases (show v = .str _ from r); exact .base (.str _)
  · obtain ⟨p, vs, rfl, hp, _⟩ := r
    exact .base (.tup (w.tup hp))
  · obtain ⟨p, vs, rfl, hp, _⟩ := r
    rcases hp.1 with hp | ⟨o, hp⟩
    · exact .base (.lst hp)
    · exact .base (.frz hp)
  · obtain ⟨p, vs, rfl, ⟨o, its, n, h1, h2, _⟩, _⟩ := r
    exact .kTuple h1 h2
  · obtain ⟨p, vs, rfl, hp, _⟩ := r
    rcases hp with hp | ⟨o, hp⟩
    · exact .base (.dK hp)
    · exact .fDict hp
def isiG (T : String) (d : D) : Option D := match tyD d with
  | some t => (kitB t T).map D.bl
  | none => none
theorem de_isi {T : String} {x : Str} {p p2 : Pos} (hg : Gl X "isinstance") (hm : X.mg "isinstance" = none) (hgT : Gl X x) (hmT : X.mg x = none) (hb : bootBuiltins x = some (.type T)) (ha : DV X E a ma) (hnT : x ≠ "__name__" := by decide) (hdT : (x == ("__debug__" : Str)) = false := by decide)
    (h1 : starEach [a, .Name x p2] X.env = (false, eval a X.env) :: starEach [.Name x p2] X.env := by rfl) (hpl : (backTo pos (starEach [.Name x p2] X.env)).any (·.1) = false := by rfl) (h2 : starEach [.Name x p2] X.env = (false, eval (.Name x p2) X.env) :: starEach [] X.env := by rfl) :
    DE X E (.Call (.Name "isinstance" p) [a, .Name x p2] [] pos) (m1 (isiG T) ma) :=
  PE.imp (pe_callB call_isi hg hm (by decide +kernel) (pa_cons ha (pa_cons (pe_bltn (v := .ty T) hgT hmT hb rfl hnT hdT) pa_nil h2) h1) (by decide) (by decide) h1 hpl) fun σ H Q ⟨pb, pg, H0, env, b, G, w, ev, q⟩ => ⟨pb, pg, H0, env, b, G, w, ev, PstG.bind q fun a1 b1 v1 G1 H1 s1 w1 p1 q1 => by
      cases hi : isiG T a1 with
      | none => rw [hi] at q1; exact q1.elim
      | some d =>
        rw [hi] at q1
        unfold isiG at hi
        split at hi
        · rename_i t ht
          simp only [Option.map_eq_some_iff] at hi
          obtain ⟨k, hk, rfl⟩ := hi
          exact ⟨v1, .ty T, .type t, .type T, k, rfl, .ty T, vw_ty w1 p1 ht, kit_ty hk, q1 _ G1 H1 (Stp.refl _ _ _) w1 rfl⟩
        · cases hi⟩
end
end Mr

set_option Elab.async false
set_option linter.all false
set_option maxRecDepth 100000
namespace Mr
open PySem PySem.Spec L2

/-! ### statements -/
inductive SO where
  | nx (env : Ev) (b : Bag)
  | rt (d : D) (b : Bag)
  | bk (env : Ev) (b : Bag)
  | ct (env : Ev) (b : Bag)
  | exc (e : Exn) (b : Bag)
  | stuck
abbrev MS := Ev → Bag → SO
def PstS (c : MC) (E : XK) (G0 H0 : Hp) (D : Ends) : SO → Prop
  | .nx env b => ∀ σ G H, Stp c G0 H0 G H → Wd c b G H → EvOk c H0 G H env σ → D.nx σ H
  | .bk env b => ∀ σ G H, Stp c G0 H0 G H → Wd c b G H → EvOk c H0 G H env σ → D.bk σ H
  | .ct env b => ∀ σ G H, Stp c G0 H0 G H → Wd c b G H → EvOk c H0 G H env σ → D.ct σ H
  | .rt d b => ∀ v G H, Stp c G0 H0 G H → Wd c b G H → Rep c G d v → D.rt v H
  | .exc e b => ∀ cls dd G H, Stp c G0 H0 G H → Wd c b G H → ExOk c G H e cls dd → E cls dd H
  | .stuck => False
def tS (K : PySem.W.Frag) (mg : Str → Option Value) (E : XK) (m : MS) : TS := fun D σ H => ∃ pb pg G0 H0 env b G, Stp (cx K mg pb pg) G0 H0 G H ∧ Wd (cx K mg pb pg) b G H ∧ EvOk (cx K mg pb pg) H0 G H env σ ∧ PstS (cx K mg pb pg) E G0 H0 D (m env b)
abbrev DS (X : Cx) (E : XK) (st : Stmt) (m : MS) : Prop := PS X st (tS X.K X.mg E m)
abbrev DSs (X : Cx) (E : XK) (st : List Stmt) (m : MS) : Prop := PSs X st (tS X.K X.mg E m)
/-- targets -/
abbrev MG := D → Ev → Option Ev
abbrev MGs := List D → Ev → Option Ev
def tG (K : PySem.W.Frag) (mg : Str → Option Value) (m : MG) : TG := fun v σ H Q => ∃ pb pg H0 env b G d env', Wd (cx K mg pb pg) b G H ∧ EvOk (cx K mg pb pg) H0 G H env σ ∧ Rep (cx K mg pb pg) G d v ∧ m d env = some env' ∧ ∀ σ', EvOk (cx K mg pb pg) H0 G H env' σ' → Q σ' H
def tGs (K : PySem.W.Frag) (mg : Str → Option Value) (m : MGs) : TGs := fun vs σ H Q => ∃ pb pg H0 env b G ds env', Wd (cx K mg pb pg) b G H ∧ EvOk (cx K mg pb pg) H0 G H env σ ∧ Reps (cx K mg pb pg) G ds vs ∧ m ds env = some env' ∧ ∀ σ', EvOk (cx K mg pb pg) H0 G H env' σ' → Q σ' H
abbrev DG (X : Cx) (tg : Expr) (m : MG) : Prop := PG X tg (tG X.K X.mg m)
abbrev DGs (X : Cx) (tg : List Expr) (m : MGs) : Prop := PGs X tg (tGs X.K X.mg m)
theorem PG.imp {X : Cx} {e : Expr} {t t' : TG} (h : PG X e t) (k : ∀ v σ H Q, t' v σ H Q → t v σ H Q) : PG X e t' := ⟨fun pins s σ H v u Q I r hq => h.run pins s σ H v u Q I r (k _ _ _ _ hq)⟩
theorem PGs.imp {X : Cx} {e : List Expr} {t t' : TGs} (h : PGs X e t) (k : ∀ v σ H Q, t' v σ H Q → t v σ H Q) : PGs X e t' := ⟨fun pins s σ H v u Q I r hq => h.run pins s σ H v u Q I r (k _ _ _ _ hq)⟩

section
variable {c : MC} {b : Bag} {G H G' H' G0 H0 : Hp} {env : Ev} {σ : L2.St}
theorem EvOk.set_va (h : EvOk c H0 G H env σ) {d : D} {v : V} (r : Rep c G d v) (i : Nat) : EvOk c H0 G H (env.set i (.va d)) (σ.set i (some v)) := by
  refine ⟨by rw [List.length_set, List.length_set]; exact h.len, fun j s e => ?_, fun j k sj sk p ne e1 e2 o1 o2 p1 => ?_, h.bb, h.bg⟩
  · rw [List.getElem?_set] at e ⊢
    by_cases hij : i = j
    · subst hij
      rw [if_pos rfl] at e ⊢
      rw [← h.len]
      split at e
      · rename_i hl
        cases e
        rw [if_pos hl]
        exact ⟨_, rfl, v, rfl, r⟩
      · cases e
    · rw [if_neg hij] at e ⊢
      exact h.at_ j s e
  · rw [List.getElem?_set] at e1 e2 p1 ⊢
    by_cases hj : i = j
    · subst hj
      rw [if_pos rfl] at e1
      split at e1
      · cases e1; cases o1
      · cases e1
    · by_cases hk : i = k
      · subst hk
        rw [if_pos rfl] at e2
        split at e2
        · cases e2; cases o2
        · cases e2
      · rw [if_neg hj] at e1 p1
        rw [if_neg hk] at e2 ⊢
        exact h.dis j k sj sk p ne e1 e2 o1 o2 p1
/-- a slot is given a new object of its own -/
theorem EvOk.set_own (h : EvOk c H0 G H env σ) {s : Sl} {p : Addr} (r : SlOk c H0 G H s (some (.ref p))) (hn : ∀ (j : Nat) (sj : Sl), env[j]? = some sj → sj.own = true → σ[j]? ≠ some (some (.ref p))) (i : Nat) : EvOk c H0 G H (env.set i s) (σ.set i (some (.ref p))) := by
  refine ⟨by rw [List.length_set, List.length_set]; exact h.len, fun j s' e => ?_, fun j k sj sk q ne e1 e2 o1 o2 p1 => ?_, h.bb, h.bg⟩
  · rw [List.getElem?_set] at e ⊢
    by_cases hij : i = j
    · subst hij
      rw [if_pos rfl] at e ⊢
      rw [← h.len]
      split at e
      · rename_i hl
        cases e
        rw [if_pos hl]
        exact ⟨_, rfl, r⟩
      · cases e
    · rw [if_neg hij] at e ⊢
      exact h.at_ j s' e
  · rw [List.getElem?_set] at e1 e2 p1 ⊢
    by_cases hj : i = j
    · subst hj
      rw [if_neg ne] at e2 ⊢
      rw [if_pos rfl] at p1
      split at p1
      · cases p1
        exact hn k sk e2 o2
      · cases p1
    · by_cases hk : i = k
      · subst hk
        rw [if_neg hj] at e1 p1
        rw [if_pos rfl]
        split
        · intro z
          cases z
          exact hn j sj e1 o1 p1
        · exact fun z => nomatch z
      · rw [if_neg hj] at e1 p1
        rw [if_neg hk] at e2 ⊢
        exact h.dis j k sj sk q ne e1 e2 o1 o2 p1
/-- the object of a slot's own is written -/
theorem EvOk.put (h : EvOk c H0 G H env σ) {i : Nat} {si s : Sl} {p : Addr} {o : HO} (e : env[i]? = some si) (o1 : si.own = true) (e2 : σ[i]? = some (some (.ref p))) (h0 : H0 p = none)
    (r : SlOk c H0 G (upd H p o) s (some (.ref p))) (os : s.own = true) : EvOk c H0 G (upd H p o) (env.set i s) σ := by
  have ownAt : ∀ (j : Nat) (sj : Sl) (v : Option V), env[j]? = some sj → sj.own = true → σ[j]? = some v → SlOk c H0 G H sj v → j ≠ i → SlOk c H0 G (upd H p o) sj v := by
    intro j sj v ej oj ev sl ne
    cases sj with
    | un => cases oj
    | va d => cases oj
    | ol ds =>
      obtain ⟨q, vs, rfl, hq, r⟩ := sl
      have : q ≠ p := fun z => by subst z; exact h.dis j i _ _ q ne ej e oj o1 ev e2
      exact ⟨q, vs, rfl, by rw [upd_ne this]; exact hq, r⟩
    | oK ks ds =>
      obtain ⟨q, vs, rfl, hq, r⟩ := sl
      have : q ≠ p := fun z => by subst z; exact h.dis j i _ _ q ne ej e oj o1 ev e2
      exact ⟨q, vs, rfl, by rw [upd_ne this]; exact hq, r⟩
    | oT ks ds =>
      obtain ⟨q, vs, rfl, hq, r⟩ := sl
      have : q ≠ p := fun z => by subst z; exact h.dis j i _ _ q ne ej e oj o1 ev e2
      exact ⟨q, vs, rfl, by rw [upd_ne this]; exact hq, r⟩
  refine ⟨by rw [List.length_set]; exact h.len, fun j s' ej => ?_, fun j k sj sk q ne ej ek oj ok pj => ?_, h.bb, h.bg⟩
  · rw [List.getElem?_set] at ej
    by_cases hij : i = j
    · subst hij
      rw [if_pos rfl] at ej
      split at ej
      · cases ej
        exact ⟨_, e2, r⟩
      · cases ej
    · rw [if_neg hij] at ej
      obtain ⟨v, ev, sl⟩ := h.at_ j s' ej
      refine ⟨v, ev, ?_⟩
      cases hs : s'.own with
      | true => exact ownAt j s' v ej hs ev sl (Ne.symm hij)
      | false =>
        cases s' with
        | un => exact sl
        | va d => exact sl
        | _ => cases hs
  · have back : ∀ (m : Nat) (sm : Sl), (env.set i s)[m]? = some sm → sm.own = true → ∃ sm', env[m]? = some sm' ∧ sm'.own = true := by
      intro m sm em om
      rw [List.getElem?_set] at em
      by_cases him : i = m
      · subst him
        exact ⟨si, e, o1⟩
      · rw [if_neg him] at em
        exact ⟨sm, em, om⟩
    obtain ⟨sj', ej', oj'⟩ := back j sj ej oj
    obtain ⟨sk', ek', ok'⟩ := back k sk ek ok
    exact h.dis j k sj' sk' q ne ej' ek' oj' ok' pj
/-- a slot's own object is frozen -/
def frzS : Sl → Sl
  | .ol ds => .va (.lst ds)
  | .oK ks ds => .va (.dK ks ds)
  | .oT ks ds => .va (.dT ks ds)
  | s => s
theorem frzS_own (s : Sl) : (frzS s).own = false := by cases s <;> rfl
def frz (env : Ev) (i : Nat) : Ev := match env[i]? with
  | some s => env.set i (frzS s)
  | none => env
theorem own_ref {s : Sl} {v : Option V} (r : SlOk c H0 G H s v) (o : s.own = true) : ∃ p u, v = some (.ref p) ∧ H p = some u ∧ nfz u = true ∧ G p = none ∧ H0 p = none ∧ (∀ G', Le G G' → G' p = some u → SlOk c H0 G' H (frzS s) v) := by
  cases s with
  | un => cases o
  | va d => cases o
  | ol ds =>
    obtain ⟨p, vs, rfl, hp, gp, h0, r⟩ := r
    exact ⟨p, _, rfl, hp, rfl, gp, h0, fun G' le e => ⟨_, rfl, p, vs, rfl, e, r.mono le⟩⟩
  | oK ks ds =>
    obtain ⟨p, vs, rfl, hp, l, gp, h0, r⟩ := r
    exact ⟨p, _, rfl, hp, rfl, gp, h0, fun G' le e => ⟨_, rfl, p, vs, rfl, e, l, r.mono le⟩⟩
  | oT ks ds =>
    obtain ⟨p, vs, rfl, hp, l, gp, h0, r⟩ := r
    exact ⟨p, _, rfl, hp, rfl, gp, h0, fun G' le e => ⟨_, rfl, p, vs, rfl, e, l, r.mono le⟩⟩
theorem EvOk.freeze (h : EvOk c H0 G H env σ) (st : Stp c G0 H0 G H) (w : Wd c b G H) (i : Nat) : ∃ G', Stp c G0 H0 G' H ∧ Wd c b G' H ∧ EvOk c H0 G' H (frz env i) σ ∧ Le G G' := by
  unfold frz
  cases e : env[i]? with
  | none => exact ⟨G, st, w, h, Le.refl G⟩
  | some s =>
    dsimp only
    cases o : s.own with
    | false =>
      have : frzS s = s := by cases s <;> first | rfl | cases o
      rw [this]
      have e3 : env.set i s = env := by
        apply List.ext_getElem?
        intro j
        rw [List.getElem?_set]
        by_cases hij : i = j
        · subst hij
          rw [if_pos rfl]
          rw [if_pos (List.getElem?_eq_some_iff.mp e).1, e]
        · rw [if_neg hij]
      simp only [e3]
      exact ⟨G, st, w, h, Le.refl G⟩
    | true =>
      obtain ⟨v, ev, sl⟩ := h.at_ i s e
      obtain ⟨p, u, rfl, hp, hz, gp, h0, k⟩ := own_ref sl o
      obtain ⟨s2, w2⟩ := st.freeze w hp h0 gp (ne_h0 h.bb h0) (ne_h0 h.bg h0) hz
      have le : Le G (upd G p u) := Le.new gp
      refine ⟨upd G p u, s2, w2, ⟨by rw [List.length_set]; exact h.len, fun j s' ej => ?_, fun j k sj sk q ne ej ek oj ok pj => ?_, h.bb, h.bg⟩, le⟩
      · rw [List.getElem?_set] at ej
        by_cases hij : i = j
        · subst hij
          rw [if_pos rfl] at ej
          split at ej
          · cases ej
            exact ⟨_, ev, k _ le upd_same⟩
          · cases ej
        · rw [if_neg hij] at ej
          obtain ⟨v', ev', sl'⟩ := h.at_ j s' ej
          refine ⟨v', ev', ?_⟩
          cases s' with
          | un => exact sl'
          | va d =>
            obtain ⟨x, e1, r1⟩ := sl'
            exact ⟨x, e1, r1.mono le _ _⟩
          | ol ds =>
            obtain ⟨q, vs, rfl, hq, gq, hq0, r⟩ := sl'
            have : q ≠ p := fun z => by subst z; exact h.dis j i _ _ q (Ne.symm hij) ej e rfl o ev' ev
            exact ⟨q, vs, rfl, hq, by rw [upd_ne this]; exact gq, hq0, r.mono le⟩
          | oK ks ds =>
            obtain ⟨q, vs, rfl, hq, l, gq, hq0, r⟩ := sl'
            have : q ≠ p := fun z => by subst z; exact h.dis j i _ _ q (Ne.symm hij) ej e rfl o ev' ev
            exact ⟨q, vs, rfl, hq, l, by rw [upd_ne this]; exact gq, hq0, r.mono le⟩
          | oT ks ds =>
            obtain ⟨q, vs, rfl, hq, l, gq, hq0, r⟩ := sl'
            have : q ≠ p := fun z => by subst z; exact h.dis j i _ _ q (Ne.symm hij) ej e rfl o ev' ev
            exact ⟨q, vs, rfl, hq, l, by rw [upd_ne this]; exact gq, hq0, r.mono le⟩
      · rw [List.getElem?_set] at ej ek
        by_cases hj : i = j
        · subst hj
          rw [if_pos rfl] at ej
          split at ej
          · cases ej
            rw [frzS_own] at oj; cases oj
          · cases ej
        · by_cases hk : i = k
          · subst hk
            rw [if_pos rfl] at ek
            split at ek
            · cases ek
              rw [frzS_own] at ok; cases ok
            · cases ek
          · rw [if_neg hj] at ej
            rw [if_neg hk] at ek
            exact h.dis j k sj sk q ne ej ek oj ok pj
end

/-! ### targets -/
def gNm (i : Nat) : MG := fun d env => some (env.set i (.va d))
def gNl : MGs := fun ds env => match ds with
  | [] => some env
  | _ => none
def gCn (g : MG) (gs : MGs) : MGs := fun ds env => match ds with
  | d :: ds => (g d env).bind fun env => gs ds env
  | [] => none
def gTp (gs : MGs) : MG := fun d env => match d with
  | .tup ds => gs ds env
  | .kt ds => gs ds env
  | _ => none
section
variable {X : Cx} {E : XK} {e tg : Expr} {es : List Expr} {st : Stmt} {sts : List Stmt} {ma mb : ME} {mt : MT} {ms mu : MS} {g : MG} {gs : MGs} {pos : Pos}
theorem dg_name (i : Nat) {x : Str} (hN : X.N.Nodup) (hi : X.N[i]? = some x := by rfl) (hx : Loc X.env.scope x := by first | exact .inl rfl | exact .inr rfl) (hf : X.fn x = true ∨ X.env.scope.names.lookup x = some .local := by first | exact .inl rfl | exact .inr rfl | assumption) : DG X (.Name x pos) (gNm i) :=
  PG.imp (pg_name hN hi hx hf) fun v σ H Q ⟨pb, pg, H0, env, b, G, d, env', w, ev, r, e, q⟩ => by
    cases e
    exact q _ (ev.set_va r i)
theorem dg_nil : DGs X [] gNl := PGs.imp pgs_nil fun vs σ H Q ⟨pb, pg, H0, env, b, G, ds, env', w, ev, r, e, q⟩ => by
  cases ds with
  | nil =>
    cases e
    exact ⟨r, q σ ev⟩
  | cons d ds => cases e
theorem dg_cons (h : DG X tg g) (hr : DGs X es gs) (hs : (assignEach (tg :: es) X.env).map (·.2) = assign tg X.env :: (assignEach es X.env).map (·.2) := by rfl) : DGs X (tg :: es) (gCn g gs) :=
  PGs.imp (pgs_cons h hr hs) fun vs σ H Q ⟨pb, pg, H0, env, b, G, ds, env', w, ev, r, e, q⟩ => by
    cases ds with
    | nil => cases e
    | cons d ds =>
      obtain ⟨v, ws, rfl, r1, r2⟩ := r
      simp only [gCn, Option.bind_eq_some_iff] at e
      obtain ⟨env1, e1, e2⟩ := e
      exact ⟨v, ws, rfl, pb, pg, H0, env, b, G, d, env1, w, ev, r1, e1, fun σ' ev' => ⟨pb, pg, H0, env1, b, G, ds, env', w, ev', r2, e2, q⟩⟩
theorem gCn_len : ∀ {gs : MGs}, True := trivial
/-- how many names a target has -/
structure Cnt (gs : MGs) (n : Nat) : Prop where
  len : ∀ ds env env', gs ds env = some env' → ds.length = n
theorem cnt_nil : Cnt gNl 0 := ⟨fun ds env env' h => by
  cases ds with
  | nil => rfl
  | cons d ds => cases h⟩
theorem cnt_cons {n : Nat} (h : Cnt gs n) : Cnt (gCn g gs) (n + 1) := ⟨fun ds env env' e => by
  cases ds with
  | nil => cases e
  | cons d ds =>
    simp only [gCn, Option.bind_eq_some_iff] at e
    obtain ⟨env1, e1, e2⟩ := e
    rw [List.length_cons, h.len ds env1 env' e2]⟩
theorem dg_tup {k n : Nat} (hc : X.calm = true) (h : DGs X es gs) (cn : Cnt gs n) (hn : (assignEach es X.env).length = n := by rfl) (hst : (assignEach es X.env).findIdx? (·.1) = none := by rfl) : DG X (.Tuple es k pos) (gTp gs) :=
  PG.imp (pg_tup hc h hn hst) fun v σ H Q ⟨pb, pg, H0, env, b, G, d, env', w, ev, r, e, q⟩ => by
    cases d <;> first | (cases e; done) | skip
    · obtain ⟨p, vs, rfl, hp, r⟩ := r
      exact ⟨p, vs, rfl, .inl (.inl (w.tup hp)), by rw [← r.len]; exact cn.len _ _ _ e, pb, pg, H0, env, b, G, _, env', w, ev, r, e, q⟩
    · obtain ⟨p, vs, rfl, hp, r⟩ := r
      exact ⟨p, vs, rfl, .inr hp, by rw [← r.len]; exact cn.len _ _ _ e, pb, pg, H0, env, b, G, _, env', w, ev, r, e, q⟩

/-! ### small statements -/
def sSkip : MS := fun env b => .nx env b
def sBk : MS := fun env b => .bk env b
def sCt : MS := fun env b => .ct env b
def sStuck : MS := fun _ _ => .stuck
def sSeq (m1 m2 : MS) : MS := fun env b => match m1 env b with
  | .nx env b => m2 env b
  | o => o
def R.so {α : Type} (x : R α) (f : α → Bag → SO) : SO := match x with
  | .ok a b => f a b
  | .exc e b => .exc e b
  | .stuck => .stuck
@[simp] theorem R.so_ok {α : Type} (a : α) (b : Bag) (f : α → Bag → SO) : (R.ok a b).so f = f a b := rfl
@[simp] theorem R.so_exc {α : Type} (e : Exn) (b : Bag) (f : α → Bag → SO) : (R.exc e b : R α).so f = .exc e b := rfl
@[simp] theorem R.so_stuck {α : Type} (f : α → Bag → SO) : (R.stuck : R α).so f = .stuck := rfl
def sDrop (m : ME) : MS := fun env b => (m env b).so fun _ b => .nx env b
def sRet (m : ME) : MS := fun env b => (m env b).so fun d b => .rt d b
def sRetN : MS := fun _ b => .rt .non b
def sIf (t : MT) (a c : MS) : MS := fun env b => (t env b).so fun k b => if k = true then a env b else c env b
def sAsg (g : MG) (m : ME) : MS := fun env b => (m env b).so fun d b => match g d env with
  | some env => .nx env b
  | none => .stuck
def ownS : D → Option Sl
  | .lst ds => some (.ol ds)
  | .dK ks ds => some (.oK ks ds)
  | .dT ks ds => some (.oT ks ds)
  | _ => none
/-- x = a new list, a new dict: x alone has it -/
def sOwn (i : Nat) (m : ME) : MS := fun env b => (m env b).so fun d b => match ownS d with
  | some s => .nx (env.set i s) b
  | none => .stuck
def sFrz (i : Nat) (m : MS) : MS := fun env b => m (frz env i) b

/-- one part, then the rest of a statement -/
theorem PstS.bind {α β : Type} {c : MC} {E : XK} {G0 H0 G H : Hp} {P : Hp → Hp → α → β → Prop} {D : Ends} {x : R α} {f : α → Bag → SO} {Q' : β → Hp → Prop} (s0 : Stp c G0 H0 G H)
    (h : PstS c E G0 H0 D (x.so f)) (k : ∀ a b v G' H', Stp c G H G' H' → Wd c b G' H' → P G' H' a v → PstS c E G0 H0 D (f a b) → Q' v H') : PstG c E G H P Q' x := by
  cases x with
  | ok a b => exact fun v G' H' s w p => k a b v G' H' s w p h
  | exc e b => exact fun cls dd G' H' s w r => h cls dd G' H' (s0.trans s) w r
  | stuck => exact h
theorem ds_nil : DSs X E [] sSkip := PSs.imp pss_nil fun D σ H ⟨pb, pg, G0, H0, env, b, G, st, w, ev, q⟩ => q σ G H st w ev
theorem ds_pass : DS X E (.Pass pos) sSkip := PS.imp ps_pass fun D σ H ⟨pb, pg, G0, H0, env, b, G, st, w, ev, q⟩ => q σ G H st w ev
theorem ds_break : DS X E (.Break pos) sBk := PS.imp ps_break fun D σ H ⟨pb, pg, G0, H0, env, b, G, st, w, ev, q⟩ => q σ G H st w ev
theorem ds_cont : DS X E (.Continue pos) sCt := PS.imp ps_continue fun D σ H ⟨pb, pg, G0, H0, env, b, G, st, w, ev, q⟩ => q σ G H st w ev
theorem ds_never : DS X E st sStuck := PS.imp ps_never fun D σ H ⟨pb, pg, G0, H0, env, b, G, st, w, ev, q⟩ => q
theorem ds_cons (h1 : DS X E st ms) (h2 : DSs X E sts mu) : DSs X E (st :: sts) (sSeq ms mu) := PSs.imp (pss_cons h1 h2) fun D σ H ⟨pb, pg, G0, H0, env, b, G, st, w, ev, q⟩ => ⟨pb, pg, G0, H0, env, b, G, st, w, ev, by
  unfold sSeq at q
  cases hm : ms env b with
  | nx env' b' => rw [hm] at q; exact fun σ' G' H' s' w' e' => ⟨pb, pg, G0, H0, env', b', G', s', w', e', q⟩
  | rt d b' => rw [hm] at q; exact q
  | bk env' b' => rw [hm] at q; exact q
  | ct env' b' => rw [hm] at q; exact q
  | exc e b' => rw [hm] at q; exact q
  | stuck => rw [hm] at q; exact q⟩
theorem ds_one (h1 : DS X E st ms) : DSs X E [st] ms := pss_one h1
theorem ds_doc {x j} {pos' : Pos} : DS X E (.Expr (.Constant (.str x) j pos) pos') sSkip := PS.imp ps_doc fun D σ H ⟨pb, pg, G0, H0, env, b, G, st, w, ev, q⟩ => q σ G H st w ev
theorem ds_drop (h : DE X E e ma) (hs : swapsWith e none pos.line X.env = pure false := by rfl) : DS X E (.Expr e pos) (sDrop ma) := PS.imp (ps_expr h hs) fun D σ H ⟨pb, pg, G0, H0, env, b, G, st, w, ev, q⟩ =>
  ⟨pb, pg, H0, env, b, G, w, ev, PstS.bind st q fun a1 b1 v1 G1 H1 s1 w1 p1 q1 => q1 σ G1 H1 (st.trans s1) w1 (ev.step s1)⟩
theorem ds_ret (h : DE X E e ma) : DS X E (.Return (some e) pos) (sRet ma) := PS.imp (ps_ret h) fun D σ H ⟨pb, pg, G0, H0, env, b, G, st, w, ev, q⟩ =>
  ⟨pb, pg, H0, env, b, G, w, ev, PstS.bind st q fun a1 b1 v1 G1 H1 s1 w1 p1 q1 => q1 v1 G1 H1 (st.trans s1) w1 p1⟩
theorem ds_retN : DS X E (.Return none pos) sRetN := PS.imp ps_retN fun D σ H ⟨pb, pg, G0, H0, env, b, G, st, w, ev, q⟩ => q .non G H st w rfl
theorem ds_if {a c : List Stmt} {t : Expr} (ht : DT X E t mt) (ha : DSs X E a ms) (hb : DSs X E c mu) : DS X E (.If t a c pos) (sIf mt ms mu) := PS.imp (ps_if ht ha hb) fun D σ H ⟨pb, pg, G0, H0, env, b, G, st, w, ev, q⟩ =>
  ⟨pb, pg, H0, env, b, G, w, ev, PstS.bind st q fun a1 b1 v1 G1 H1 s1 w1 p1 q1 => by
    cases (show v1 = a1 from p1)
    cases a1 with
    | true => rw [if_pos rfl] at q1 ⊢; exact ⟨pb, pg, G0, H0, env, b1, G1, st.trans s1, w1, ev.step s1, q1⟩
    | false => rw [if_neg Bool.false_ne_true] at q1 ⊢; exact ⟨pb, pg, G0, H0, env, b1, G1, st.trans s1, w1, ev.step s1, q1⟩⟩
theorem readAsg {K : PySem.W.Frag} {mg : Str → Option Value} {D : Ends} {σ : L2.St} {H : Hp} (h : tS K mg E (sAsg g ma) D σ H) : tAsg (tM K mg E ma) (tG K mg g) D σ H := by
  obtain ⟨pb, pg, G0, H0, env, b, G, st, w, ev, q⟩ := h
  refine ⟨pb, pg, H0, env, b, G, w, ev, PstS.bind st q fun a1 b1 v1 G1 H1 s1 w1 p1 q1 => ?_⟩
  cases hg : g a1 env with
  | none => rw [hg] at q1; exact q1.elim
  | some env' => rw [hg] at q1; exact ⟨pb, pg, H0, env, b1, G1, a1, env', w1, ev.step s1, p1, hg, fun σ' ev' => q1 σ' G1 H1 (st.trans s1) w1 ev'⟩
theorem ds_asg (he : DE X E e ma) (hg : DG X tg g) (hs : swapsWithSole [tg] e pos.line X.env = pure false := by rfl) (hw : swappedStores [tg] e X.env = pure none := by rfl)
    (h1 : (assignEach [tg] X.env).map (·.2) = [assign tg X.env] := by rfl) : DS X E (.Assign [tg] e pos) (sAsg g ma) := PS.imp (ps_asg he hg hs hw h1) fun _ _ _ h => readAsg h
theorem ds_set (i : Nat) {x : Str} {pos' : Pos} (he : DE X E e ma) (hN : X.N.Nodup) (hi : X.N[i]? = some x := by rfl) (hx : Loc X.env.scope x := by first | exact .inl rfl | exact .inr rfl) (hs : swapsWith e (some (.Name x pos')) pos.line X.env = pure false := by rfl) (hf : X.fn x = true ∨ X.env.scope.names.lookup x = some .local := by first | exact .inl rfl | exact .inr rfl | assumption) :
    DS X E (.Assign [.Name x pos'] e pos) (sAsg (gNm i) ma) := PS.imp (ps_set hN hi hx he hs hf) fun D σ H ⟨pb, pg, G0, H0, env, b, G, st, w, ev, q⟩ =>
  ⟨pb, pg, H0, env, b, G, w, ev, PstS.bind st q fun a1 b1 v1 G1 H1 s1 w1 p1 q1 => q1 _ G1 H1 (st.trans s1) w1 ((ev.step s1).set_va p1 i)⟩
theorem readOwn {K : PySem.W.Frag} {mg : Str → Option Value} {D : Ends} {σ : L2.St} {H : Hp} {i : Nat} (h : tS K mg E (sOwn i ma) D σ H) : tAsg (tF K mg E ma) (gName i) D σ H := by
  obtain ⟨pb, pg, G0, H0, env, b, G, st, w, ev, q⟩ := h
  refine ⟨pb, pg, H0, env, b, G, w, ev, PstS.bind st q fun a1 b1 v1 G1 H1 s1 w1 p1 q1 => ?_⟩
  have st1 := st.trans s1
  have ev1 := ev.step s1
  have h00 : ∀ {p : Addr}, H p = none → H0 p = none := fun {p} hp => Classical.byContradiction fun z => st.dm p z hp
  have fr : ∀ {p : Addr}, H p = none → ∀ (j : Nat) (sj : Sl), env[j]? = some sj → sj.own = true → σ[j]? ≠ some (some (.ref p)) := fun {p} hp j sj ej oj z => by
    obtain ⟨v, ev', sl⟩ := ev.at_ j sj ej
    obtain ⟨p', u, rfl, hp', _⟩ := own_ref sl oj
    rw [z] at ev'
    cases ev'
    rw [hp] at hp'; cases hp'
  cases a1 <;> first | (exact q1.elim) | skip
  · obtain ⟨p, vs, rfl, hp, gp, hn, r⟩ := p1
    exact q1 _ G1 H1 st1 w1 (ev1.set_own (s := .ol _) ⟨p, vs, rfl, hp, gp, h00 hn, r⟩ (fr hn) i)
  · obtain ⟨p, vs, rfl, hp, hl, gp, hn, r⟩ := p1
    exact q1 _ G1 H1 st1 w1 (ev1.set_own (s := .oK _ _) ⟨p, vs, rfl, hp, hl, gp, h00 hn, r⟩ (fr hn) i)
  · obtain ⟨p, vs, rfl, hp, hl, gp, hn, r⟩ := p1
    exact q1 _ G1 H1 st1 w1 (ev1.set_own (s := .oT _ _) ⟨p, vs, rfl, hp, hl, gp, h00 hn, r⟩ (fr hn) i)
theorem ds_own (i : Nat) {x : Str} {pos' : Pos} (he : DF X E e ma) (hN : X.N.Nodup) (hi : X.N[i]? = some x := by rfl) (hx : Loc X.env.scope x := by first | exact .inl rfl | exact .inr rfl) (hs : swapsWith e (some (.Name x pos')) pos.line X.env = pure false := by rfl) (hf : X.fn x = true ∨ X.env.scope.names.lookup x = some .local := by first | exact .inl rfl | exact .inr rfl | assumption) :
    DS X E (.Assign [.Name x pos'] e pos) (sOwn i ma) := PS.imp (ps_set hN hi hx he hs hf) fun _ _ _ h => readOwn h
theorem ds_frz (i : Nat) (h : DS X E st ms) : DS X E st (sFrz i ms) := PS.imp h fun D σ H ⟨pb, pg, G0, H0, env, b, G, st, w, ev, q⟩ => by
  obtain ⟨G', s', w', ev', _⟩ := ev.freeze st w i
  exact ⟨pb, pg, G0, H0, frz env i, b, G', s', w', ev', q⟩
end
end Mr

set_option Elab.async false
set_option linter.all false
set_option maxRecDepth 100000
namespace Mr
open PySem PySem.Spec L2

/-! ### what is walked -/
abbrev MI := Ev → Bag → R (List D)
/-- the walk of a thing that stands still -/
def WlkS (c : MC) (J : It) (ds : List D) (G' : Hp) : Prop := ∀ (i : Nat) (b : Bag) (G2 H2 : Hp), Le G' G2 → Wd c b G2 H2 →
  (∀ d, ds[i]? = some d → J.go i H2 ∧ ∀ x H3, J.yld i H2 x H3 → ∃ G3, Stp c G2 H2 G3 H3 ∧ Wd c b G3 H3 ∧ Rep c G3 d x) ∧ (i = ds.length → J.stop i H2)
/-- the walk of a thing that may change, while nothing changes it -/
def WlkC (c : MC) (J : It) (ds : List D) (G' H' : Hp) : Prop := ∀ (i : Nat) (b : Bag) (G2 H2 : Hp), Stp c G' H' G2 H2 → Wd c b G2 H2 →
  (∀ d, ds[i]? = some d → J.go i H2 ∧ ∀ x H3, J.yld i H2 x H3 → ∃ G3, Stp c G2 H2 G3 H3 ∧ Wd c b G3 H3 ∧ Rep c G3 d x) ∧ (i = ds.length → J.stop i H2)
theorem WlkS.c {c : MC} {J : It} {ds : List D} {G' H' : Hp} (h : WlkS c J ds G') : WlkC c J ds G' H' := fun i b G2 H2 s w => h i b G2 H2 s.g w
def PstI (c : MC) (E : XK) (G H : Hp) (P : It → List D → Hp → Hp → Prop) (Rr : It → Hp → Prop) : R (List D) → Prop
  | .ok ds b => ∀ J G' H', Stp c G H G' H' → Wd c b G' H' → P J ds G' H' → Rr J H'
  | .exc e b => PstX c E G H e b
  | .stuck => False
def tIS (K : PySem.W.Frag) (mg : Str → Option Value) (E : XK) (m : MI) : TI := fun σ H Rr => ∃ pb pg H0 env b G, Wd (cx K mg pb pg) b G H ∧ EvOk (cx K mg pb pg) H0 G H env σ ∧ PstI (cx K mg pb pg) E G H (fun J ds G' _ => WlkS (cx K mg pb pg) J ds G') Rr (m env b)
def tIC (K : PySem.W.Frag) (mg : Str → Option Value) (E : XK) (m : MI) : TI := fun σ H Rr => ∃ pb pg H0 env b G, Wd (cx K mg pb pg) b G H ∧ EvOk (cx K mg pb pg) H0 G H env σ ∧ PstI (cx K mg pb pg) E G H (fun J ds G' H' => WlkC (cx K mg pb pg) J ds G' H') Rr (m env b)
abbrev DI (X : Cx) (E : XK) (tg it : Expr) (m : MI) : Prop := PI X tg it (tIS X.K X.mg E m)
abbrev DIc (X : Cx) (E : XK) (tg it : Expr) (m : MI) : Prop := PI X tg it (tIC X.K X.mg E m)
theorem PI.imp {X : Cx} {tg e : Expr} {t t' : TI} (h : PI X tg e t) (k : ∀ σ H Q, t' σ H Q → t σ H Q) : PI X tg e t' := ⟨fun pins s σ H Q I hq => h.run pins s σ H Q I (k _ _ _ hq)⟩
theorem PI.or {X : Cx} {tg e : Expr} {t t' : TI} (h : PI X tg e t) (h' : PI X tg e t') : PI X tg e (fun σ H Q => t σ H Q ∨ t' σ H Q) := ⟨fun pins s σ H Q I hq => by
  rcases hq with hq | hq
  · exact h.run pins s σ H Q I hq
  · exact h'.run pins s σ H Q I hq⟩
theorem DI.c {X : Cx} {E : XK} {tg it : Expr} {m : MI} (h : DI X E tg it m) : DIc X E tg it m := PI.imp h fun σ H Rr ⟨pb, pg, H0, env, b, G, w, ev, q⟩ => ⟨pb, pg, H0, env, b, G, w, ev, by
  cases hm : m env b with
  | ok ds b1 => rw [hm] at q; exact fun J G' H' s w p => q J G' H' s w (WlkS.c p)
  | exc e b1 => rw [hm] at q; exact q
  | stuck => rw [hm] at q; exact q⟩

/-- items of a list, a tuple -/
def mSeq (m : ME) : MI := fun env b => (m env b).bind fun d b => R.opt (seqD d) b
def mRg1 (m : ME) : MI := fun env b => (m env b).bind fun d b => match d with
  | .int n => if -1000000 ≤ n ∧ n ≤ 1000000 then .ok ((List.range n.toNat).map fun i => .int (i : Nat)) b else .stuck
  | _ => .stuck
def mRg2 (m1 m2 : ME) : MI := fun env b => (m1 env b).bind fun d b => (m2 env b).bind fun e b => match d, e with
  | .int l, .int n => if -1000000 ≤ l ∧ l ≤ 1000000 ∧ -1000000 ≤ n ∧ n ≤ 1000000 then .ok ((List.range (n - l).toNat).map fun i => .int (l + (i : Nat))) b else .stuck
  | _, _ => .stuck
def enumD (k : Nat) : List D → List D
  | [] => []
  | d :: ds => .tup [.int (k : Nat), d] :: enumD (k + 1) ds
theorem enumD_len : ∀ (k : Nat) (ds : List D), (enumD k ds).length = ds.length
  | _, [] => rfl
  | k, d :: ds => by rw [enumD, List.length_cons, List.length_cons, enumD_len (k + 1) ds]
theorem enumD_get : ∀ (k : Nat) (ds : List D) (i : Nat), (enumD k ds)[i]? = (ds[i]?).map fun d => .tup [.int ((k + i : Nat) : Nat), d]
  | _, [], i => by simp [enumD]
  | k, d :: ds, 0 => by simp [enumD]
  | k, d :: ds, i + 1 => by
    rw [enumD, List.getElem?_cons_succ, List.getElem?_cons_succ, enumD_get (k + 1) ds i, show k + 1 + i = k + (i + 1) by omega]
def mEnum (m : ME) : MI := fun env b => (m env b).bind fun d b => R.opt ((seqD d).map (enumD 0)) b
section
variable {c : MC} {b : Bag} {G H : Hp}
theorem wlk_of {J : It} {n : Nat} {Gd : Hp → Prop} {Y : Nat → Hp → V → Hp → Prop} (wk : Walk J n Gd Y) : True := trivial
theorem wlk_list {K : PySem.W.Frag} {ds : List D} {p : Addr} {vs : List V} (hp : G p = some (.lst vs)) (r : Reps c G ds vs) : WlkS c (Itl K p) ds G := fun i b G2 H2 le w => by
  have hs : SqL K H2 p vs := .inl (w.rd (le _ _ hp))
  refine ⟨fun d hd => ?_, fun e => ⟨vs, hs, by rw [← r.len]; omega⟩⟩
  obtain ⟨v, hv, rv⟩ := r.get hd
  exact ⟨⟨vs, v, hs, hv⟩, fun x H3 ⟨e1, e2⟩ => by
    subst e1
    have e3 := e2 vs hs
    rw [hv] at e3
    cases e3
    exact ⟨G2, Stp.refl _ _ _, w, rv.mono le _ _⟩⟩
theorem wlk_listC {K : PySem.W.Frag} {ds : List D} {p : Addr} {vs : List V} (hp : LstV c H p vs) (r : Reps c G ds vs) : WlkC c (Itl K p) ds G H := fun i b G2 H2 s w => by
  have hs : SqL K H2 p vs := (hp.mono s).l
  refine ⟨fun d hd => ?_, fun e => ⟨vs, hs, by rw [← r.len]; omega⟩⟩
  obtain ⟨v, hv, rv⟩ := r.get hd
  exact ⟨⟨vs, v, hs, hv⟩, fun x H3 ⟨e1, e2⟩ => by
    subst e1
    have e3 := e2 vs hs
    rw [hv] at e3
    cases e3
    exact ⟨G2, Stp.refl _ _ _, w, rv.mono s.g _ _⟩⟩
theorem wlk_tup {K : PySem.W.Frag} {ds : List D} {p : Addr} {vs : List V} (hp : G p = some (.tup vs)) (r : Reps c G ds vs) : WlkS c (Itt K p) ds G := fun i b G2 H2 le w => by
  have hs : SqT K H2 p vs := .inl (.inl (w.tup (le _ _ hp)))
  refine ⟨fun d hd => ?_, fun e => ⟨vs, hs, by rw [← r.len]; omega⟩⟩
  obtain ⟨v, hv, rv⟩ := r.get hd
  exact ⟨⟨vs, v, hs, hv⟩, fun x H3 ⟨e1, e2⟩ => by
    subst e1
    have e3 := e2 vs hs
    rw [hv] at e3
    cases e3
    exact ⟨G2, Stp.refl _ _ _, w, rv.mono le _ _⟩⟩
theorem wlk_kt {ds : List D} {p : Addr} {vs : List V} (hp : KTup c.K p vs) (r : Reps c G ds vs) : WlkS c (Itt c.K p) ds G := fun i b G2 H2 le w => by
  have hs : SqT c.K H2 p vs := .inr hp
  refine ⟨fun d hd => ?_, fun e => ⟨vs, hs, by rw [← r.len]; omega⟩⟩
  obtain ⟨v, hv, rv⟩ := r.get hd
  exact ⟨⟨vs, v, hs, hv⟩, fun x H3 ⟨e1, e2⟩ => by
    subst e1
    have e3 := e2 vs hs
    rw [hv] at e3
    cases e3
    exact ⟨G2, Stp.refl _ _ _, w, rv.mono le _ _⟩⟩
theorem wlk_rng {lo : Int} {n : Nat} : WlkS c (Itr lo n) ((List.range n).map fun i => .int (lo + (i : Nat))) G := fun i b G2 H2 le w => by
  refine ⟨fun d hd => ?_, fun e => ?_⟩
  · rw [List.getElem?_map] at hd
    simp only [Option.map_eq_some_iff] at hd
    obtain ⟨j, hj, rfl⟩ := hd
    obtain ⟨h1, h2⟩ := List.getElem?_eq_some_iff.mp hj
    rw [List.getElem_range] at h2
    subst h2
    rw [List.length_range] at h1
    exact ⟨h1, fun x H3 ⟨e1, e2⟩ => by
      subst e1 e2
      exact ⟨G2, Stp.refl _ _ _, w, rfl⟩⟩
  · rw [List.length_map, List.length_range] at e
    show n ≤ i
    omega
theorem wlk_enum {K : PySem.W.Frag} {ds : List D} {p : Addr} {vs : List V} (hp : G p = some (.lst vs)) (r : Reps c G ds vs) : WlkS c (Ite K p) (enumD 0 ds) G := fun i b G2 H2 le w => by
  have hs : SqL K H2 p vs := .inl (w.rd (le _ _ hp))
  obtain ⟨go, st, yl⟩ := (walk_enum (K := K) (a := p) (xs := vs))
  refine ⟨fun d hd => ?_, fun e => ?_⟩
  · rw [enumD_get] at hd
    simp only [Option.map_eq_some_iff] at hd
    obtain ⟨d', hd', rfl⟩ := hd
    obtain ⟨v, hv, rv⟩ := r.get hd'
    have hi : i < vs.length := (List.getElem?_eq_some_iff.mp hv).1
    refine ⟨go i H2 hi hs, fun x H3 hy => ?_⟩
    obtain ⟨T, x1, y1, rfl, nT, rfl, e1, e2⟩ := yl i H2 x H3 hi hs hy
    have e2 : vs[i]? = some y1 := e2
    rw [hv] at e2
    cases e1
    cases e2
    obtain ⟨s2, w2⟩ := Stp.new (o := .tup [.int (i : Nat), v]) w nT
    refine ⟨_, s2, w2, T, _, rfl, upd_same, ?_⟩
    rw [Nat.zero_add]
    exact .cons rfl (.one ((rv.mono le _ _).mono s2.g _ _))
  · rw [enumD_len] at e
    have : i = vs.length := by rw [← r.len]; exact e
    subst this
    exact st H2 hs
theorem wlk_enumC {K : PySem.W.Frag} {ds : List D} {p : Addr} {vs : List V} (hp : LstV c H p vs) (r : Reps c G ds vs) : WlkC c (Ite K p) (enumD 0 ds) G H := fun i b G2 H2 s w => by
  have hs : SqL K H2 p vs := (hp.mono s).l
  obtain ⟨go, st, yl⟩ := (walk_enum (K := K) (a := p) (xs := vs))
  refine ⟨fun d hd => ?_, fun e => ?_⟩
  · rw [enumD_get] at hd
    simp only [Option.map_eq_some_iff] at hd
    obtain ⟨d', hd', rfl⟩ := hd
    obtain ⟨v, hv, rv⟩ := r.get hd'
    have hi : i < vs.length := (List.getElem?_eq_some_iff.mp hv).1
    refine ⟨go i H2 hi hs, fun x H3 hy => ?_⟩
    obtain ⟨T, x1, y1, rfl, nT, rfl, e1, e2⟩ := yl i H2 x H3 hi hs hy
    have e2 : vs[i]? = some y1 := e2
    rw [hv] at e2
    cases e1
    cases e2
    obtain ⟨s2, w2⟩ := Stp.new (o := .tup [.int (i : Nat), v]) w nT
    refine ⟨_, s2, w2, T, _, rfl, upd_same, ?_⟩
    rw [Nat.zero_add]
    exact .cons rfl (.one ((rv.mono s.g _ _).mono s2.g _ _))
  · rw [enumD_len] at e
    have : i = vs.length := by rw [← r.len]; exact e
    subst this
    exact st H2 hs
end
end Mr

set_option Elab.async false
set_option linter.all false
set_option maxRecDepth 100000
namespace Mr
open PySem PySem.Spec L2

section
variable {X : Cx} {E : XK} {e tg it elt : Expr} {st : Stmt} {sts body : List Stmt} {ma mb me : ME} {mi : MI} {mt : MT} {ms mu : MS} {g : MG} {gs : MGs} {pos : Pos}

theorem di_seq (h : DE X E e ma) : DI X E tg e (mSeq ma) := PI.imp (PI.or (pi_list h) (pi_tup h)) fun σ H Rr ⟨pb, pg, H0, env, b, G, w, ev, q⟩ => by
  unfold mSeq at q
  cases hm : ma env b with
  | stuck => rw [hm] at q; exact q.elim
  | exc e b1 => rw [hm] at q; exact .inl ⟨pb, pg, H0, env, b, G, w, ev, by rw [hm]; exact q⟩
  | ok d b1 =>
    rw [hm] at q
    cases d <;> first | exact q.elim | skip
    · refine .inr ⟨pb, pg, H0, env, b, G, w, ev, ?_⟩
      rw [hm]
      intro v G' H' s w' p
      obtain ⟨a, vs, rfl, hp, r⟩ := p
      exact ⟨a, rfl, ⟨vs, .inl (.inl (w'.tup hp))⟩, q _ G' H' s w' (wlk_tup hp r)⟩
    · refine .inl ⟨pb, pg, H0, env, b, G, w, ev, ?_⟩
      rw [hm]
      intro v G' H' s w' p
      obtain ⟨a, vs, rfl, hp, r⟩ := p
      exact ⟨a, rfl, ⟨vs, .inl (w'.rd hp)⟩, q _ G' H' s w' (wlk_list hp r)⟩
    · refine .inr ⟨pb, pg, H0, env, b, G, w, ev, ?_⟩
      rw [hm]
      intro v G' H' s w' p
      obtain ⟨a, vs, rfl, hp, r⟩ := p
      exact ⟨a, rfl, ⟨vs, .inr hp⟩, q _ G' H' s w' (wlk_kt hp r)⟩
theorem dic_seq (h : DV X E e ma) : DIc X E tg e (mSeq ma) := PI.imp (PI.or (pi_list h) (pi_tup h)) fun σ H Rr ⟨pb, pg, H0, env, b, G, w, ev, q⟩ => by
  unfold mSeq at q
  cases hm : ma env b with
  | stuck => rw [hm] at q; exact q.elim
  | exc e b1 => rw [hm] at q; exact .inl ⟨pb, pg, H0, env, b, G, w, ev, by rw [hm]; exact q⟩
  | ok d b1 =>
    rw [hm] at q
    cases d <;> first | exact q.elim | skip
    · refine .inr ⟨pb, pg, H0, env, b, G, w, ev, ?_⟩
      rw [hm]
      intro v G' H' s w' p
      obtain ⟨a, vs, rfl, hp, r⟩ := p
      exact ⟨a, rfl, ⟨vs, .inl (.inl (w'.tup hp))⟩, q _ G' H' s w' (wlk_tup hp r).c⟩
    · refine .inl ⟨pb, pg, H0, env, b, G, w, ev, ?_⟩
      rw [hm]
      intro v G' H' s w' p
      obtain ⟨a, vs, rfl, hp, r⟩ := p
      exact ⟨a, rfl, ⟨vs, hp.l⟩, q _ G' H' s w' (wlk_listC hp r)⟩
    · refine .inr ⟨pb, pg, H0, env, b, G, w, ev, ?_⟩
      rw [hm]
      intro v G' H' s w' p
      obtain ⟨a, vs, rfl, hp, r⟩ := p
      exact ⟨a, rfl, ⟨vs, .inr hp⟩, q _ G' H' s w' (wlk_kt hp r).c⟩
theorem pa1 {K : PySem.W.Frag} {mg : Str → Option Value} {σ : L2.St} {H : Hp} {Q : List V → Hp → Prop} (h : tM K mg E ma σ H fun v H' => Q [v] H') : tCons (tM K mg E ma) tNil σ H Q := h
theorem di_rg1 {p : Pos} (hg : Gl X "range") (hm : X.mg "range" = none) (h : DE X E e ma) (h1 : starEach [e] X.env = (false, eval e X.env) :: starEach [] X.env := by rfl) (hs : starEach [e] X.env = [(false, eval e X.env)] := by rfl) : DI X E tg (.Call (.Name "range" p) [e] [] pos) (mRg1 ma) :=
  PI.imp (pi_range1 hg hm (pa_cons h pa_nil h1) hs) fun σ H Rr ⟨pb, pg, H0, env, b, G, w, ev, q⟩ => pa1 ⟨pb, pg, H0, env, b, G, w, ev, by
    unfold mRg1 at q
    cases hm : ma env b with
    | stuck => rw [hm] at q; exact q.elim
    | exc e b1 => rw [hm] at q; exact q
    | ok d b1 =>
      rw [hm] at q
      simp only [R.bind_ok] at q
      intro v G' H' s w' p
      cases d <;> first | exact q.elim | skip
      rename_i n
      dsimp only at q
      split at q
      · rename_i hz
        cases (show v = .int n from p)
        refine ⟨n, rfl, by omega, by omega, q _ G' H' s w' ?_⟩
        have := @wlk_rng (cx X.K X.mg pb pg) G' 0 n.toNat
        simp only [Int.zero_add] at this
        exact this
      · exact q.elim⟩
theorem di_rg2 {p : Pos} {e2 : Expr} (hg : Gl X "range") (hm : X.mg "range" = none) (h : DE X E e ma) (h2 : DE X E e2 mb) (h1 : starEach [e, e2] X.env = (false, eval e X.env) :: starEach [e2] X.env := by rfl) (h3 : starEach [e2] X.env = (false, eval e2 X.env) :: starEach [] X.env := by rfl)
    (hs : starEach [e, e2] X.env = [(false, eval e X.env), (false, eval e2 X.env)] := by rfl) (hs2 : starEach [e2] X.env = [(false, eval e2 X.env)] := by rfl) : DI X E tg (.Call (.Name "range" p) [e, e2] [] pos) (mRg2 ma mb) :=
  PI.imp (pi_range2 hg hm (pa_cons h (pa_cons h2 pa_nil h3) h1) hs hs2) fun σ H Rr ⟨pb, pg, H0, env, b, G, w, ev, q⟩ => (⟨pb, pg, H0, env, b, G, w, ev, by
    unfold mRg2 at q
    cases hm : ma env b with
    | stuck => rw [hm] at q; exact q.elim
    | exc e b1 => rw [hm] at q; exact q
    | ok d b1 =>
      rw [hm] at q
      simp only [R.bind_ok] at q
      intro v G1 H1 s1 w1 p1
      refine ⟨pb, pg, H0, env, b1, G1, w1, ev.step s1, ?_⟩
      cases hm2 : mb env b1 with
      | stuck => rw [hm2] at q; exact q.elim
      | exc e b2 => rw [hm2] at q; exact PstX.of s1 q
      | ok d2 b2 =>
        rw [hm2] at q
        simp only [R.bind_ok] at q
        intro v2 G' H' s w' p
        cases d <;> first | exact q.elim | skip
        cases d2 <;> first | exact q.elim | skip
        rename_i l n
        dsimp only at q
        split at q
        · rename_i hz
          cases (show v = .int l from p1)
          cases (show v2 = .int n from p)
          exact ⟨l, n, rfl, by omega, q _ G' H' (s1.trans s) w' wlk_rng⟩
        · exact q.elim⟩ : tM X.K X.mg E ma σ H fun v H1 => tM X.K X.mg E mb σ H1 fun v2 H2 => ∃ i j : Int, [v, v2] = [V.int i, V.int j] ∧ (-(2 ^ 62) ≤ i ∧ i < 2 ^ 62 ∧ -(2 ^ 62) ≤ j ∧ j < 2 ^ 62) ∧ Rr (Itr i (j - i).toNat) H2)
def mEnumL (m : ME) : MI := fun env b => (m env b).bind fun d b => match d with
  | .lst ds => .ok (enumD 0 ds) b
  | _ => .stuck
theorem di_enumL {p tpos : Pos} {elts : List Expr} {kk : Nat} (hg : Gl X "enumerate") (hm : X.mg "enumerate" = none) (h : DE X E e ma) (h1 : starEach [e] X.env = (false, eval e X.env) :: starEach [] X.env := by rfl) (hs : starEach [e] X.env = [(false, eval e X.env)] := by rfl) :
    DI X E (.Tuple elts kk tpos) (.Call (.Name "enumerate" p) [e] [] pos) (mEnumL ma) :=
  PI.imp (pi_enum hg hm (pa_cons h pa_nil h1) hs) fun σ H Rr ⟨pb, pg, H0, env, b, G, w, ev, q⟩ => pa1 ⟨pb, pg, H0, env, b, G, w, ev, by
    unfold mEnumL at q
    cases hm : ma env b with
    | stuck => rw [hm] at q; exact q.elim
    | exc e b1 => rw [hm] at q; exact q
    | ok d b1 =>
      rw [hm] at q
      simp only [R.bind_ok] at q
      intro v G' H' s w' p
      cases d <;> first | exact q.elim | skip
      obtain ⟨a, vs, rfl, hp, r⟩ := p
      exact ⟨a, vs, rfl, .inl (w'.rd hp), q _ G' H' s w' (wlk_enum hp r)⟩⟩
theorem pa1v {K : PySem.W.Frag} {mg : Str → Option Value} {σ : L2.St} {H : Hp} {Q : List V → Hp → Prop} (h : tV K mg E ma σ H fun v H' => Q [v] H') : tCons (tV K mg E ma) tNil σ H Q := h
theorem dic_enumL {p tpos : Pos} {elts : List Expr} {kk : Nat} (hg : Gl X "enumerate") (hm : X.mg "enumerate" = none) (h : DV X E e ma) (h1 : starEach [e] X.env = (false, eval e X.env) :: starEach [] X.env := by rfl) (hs : starEach [e] X.env = [(false, eval e X.env)] := by rfl) :
    DIc X E (.Tuple elts kk tpos) (.Call (.Name "enumerate" p) [e] [] pos) (mEnumL ma) :=
  PI.imp (pi_enum hg hm (pa_cons h pa_nil h1) hs) fun σ H Rr ⟨pb, pg, H0, env, b, G, w, ev, q⟩ => pa1v ⟨pb, pg, H0, env, b, G, w, ev, by
    unfold mEnumL at q
    cases hm : ma env b with
    | stuck => rw [hm] at q; exact q.elim
    | exc e b1 => rw [hm] at q; exact q
    | ok d b1 =>
      rw [hm] at q
      simp only [R.bind_ok] at q
      intro v G' H' s w' p
      cases d <;> first | exact q.elim | skip
      obtain ⟨a, vs, rfl, hp, r⟩ := p
      exact ⟨a, vs, rfl, hp.l, q _ G' H' s w' (wlk_enumC hp r)⟩⟩

/-! ### for -/
def forL (g : MG) (body : MS) : List D → Ev → Bag → SO
  | [], env, b => .nx env b
  | d :: ds, env, b => match g d env with
    | none => .stuck
    | some env1 => match body env1 b with
      | .nx env2 b2 => forL g body ds env2 b2
      | .ct env2 b2 => forL g body ds env2 b2
      | .bk env2 b2 => .nx env2 b2
      | o => o
def sFor (mi : MI) (g : MG) (body : MS) : MS := fun env b => (mi env b).so fun ds b => forL g body ds env b
theorem Stp.rebase {c : MC} {G0 H0 G' H' G H : Hp} (a : Stp c G0 H0 G' H') (b : Stp c G' H0 G H) : Stp c G0 H0 G H :=
  ⟨a.g.trans b.g, b.h, fun x h e => b.fr x h (a.fr x h e), b.dm⟩
theorem Stp.here {c : MC} {G0 H0 G' H' : Hp} (a : Stp c G0 H0 G' H') : Stp c G' H0 G' H' := ⟨Le.refl _, a.h, fun x h e => e, a.dm⟩
theorem PstS.base {c : MC} {E : XK} {G0 H0 G' H' : Hp} {D : Ends} (a : Stp c G0 H0 G' H') : ∀ {o : SO}, PstS c E G0 H0 D o → PstS c E G' H0 D o
  | .nx _ _, q => fun σ G H s w e => q σ G H (a.rebase s) w e
  | .bk _ _, q => fun σ G H s w e => q σ G H (a.rebase s) w e
  | .ct _ _, q => fun σ G H s w e => q σ G H (a.rebase s) w e
  | .rt _ _, q => fun v G H s w r => q v G H (a.rebase s) w r
  | .exc _ _, q => fun cls dd G H s w r => q cls dd G H (a.rebase s) w r
  | .stuck, q => q
theorem readFor {K : PySem.W.Frag} {mg : Str → Option Value} {D : Ends} {σ : L2.St} {H : Hp} (h : tS K mg E (sFor mi g ms) D σ H) : tFor (tIS K mg E mi) (tG K mg g) (tS K mg E ms) D σ H := by
  obtain ⟨pb, pg, G0, H0, env, b, G, st, w, ev, q⟩ := h
  refine ⟨pb, pg, H0, env, b, G, w, ev, ?_⟩
  unfold sFor at q
  cases hm : mi env b with
  | stuck => rw [hm] at q; exact q.elim
  | exc e b1 => rw [hm] at q; exact fun cls dd G' H' s w r => q cls dd G' H' (st.trans s) w r
  | ok ds b1 =>
    rw [hm] at q
    intro J G1 H1 s1 w1 wk
    have st1 := st.trans s1
    refine ⟨fun i m σ H => ∃ env b G, Stp (cx K mg pb pg) G1 H0 G H ∧ Wd (cx K mg pb pg) b G H ∧ EvOk (cx K mg pb pg) H0 G H env σ ∧ m = ds.length - i ∧ i ≤ ds.length ∧ PstS (cx K mg pb pg) E G1 H0 D (forL g ms (ds.drop i) env b), ⟨ds.length, env, b1, G1, st1.here, w1, ev.step s1, rfl, Nat.zero_le _, PstS.base st1 q⟩, ?_⟩
    rintro i m σ2 H2 ⟨env2, b2, G2, s2, w2, e2, rfl, hi, q2⟩
    obtain ⟨wg, ws⟩ := wk i b2 G2 H2 s2.g w2
    by_cases hlt : i < ds.length
    · right
      obtain ⟨go, yl⟩ := wg ds[i] (List.getElem?_eq_getElem hlt)
      rw [List.drop_eq_getElem_cons hlt, forL] at q2
      refine ⟨go, fun σ3 H3 => ∃ env b G, Stp (cx K mg pb pg) G1 H0 G H3 ∧ Wd (cx K mg pb pg) b G H3 ∧ EvOk (cx K mg pb pg) H0 G H3 env σ3 ∧ PstS (cx K mg pb pg) E G1 H0 D (forL g ms (ds.drop (i + 1)) env b), fun σ3 H3 ⟨env3, b3, G3, s3, w3, e3, q3⟩ => ⟨ds.length - (i + 1), by omega, env3, b3, G3, s3, w3, e3, rfl, hlt, q3⟩, fun x H3 hy => ?_⟩
      obtain ⟨G3, s3, w3, r3⟩ := yl x H3 hy
      cases hg : g ds[i] env2 with
      | none => rw [hg] at q2; exact q2.elim
      | some env3 =>
        rw [hg] at q2
        dsimp only at q2
        refine ⟨pb, pg, H0, env2, b2, G3, ds[i], env3, w3, e2.step s3, r3, hg, fun σ4 e4 => ⟨pb, pg, G1, H0, env3, b2, G3, s2.trans s3, w3, e4, ?_⟩⟩
        cases hb : ms env3 b2 with
        | nx env5 b5 => rw [hb] at q2; exact fun σ5 G5 H5 s5 w5 e5 => ⟨env5, b5, G5, s5, w5, e5, q2⟩
        | ct env5 b5 => rw [hb] at q2; exact fun σ5 G5 H5 s5 w5 e5 => ⟨env5, b5, G5, s5, w5, e5, q2⟩
        | bk env5 b5 => rw [hb] at q2; exact q2
        | rt d b5 => rw [hb] at q2; exact q2
        | exc e b5 => rw [hb] at q2; exact q2
        | stuck => rw [hb] at q2; exact q2
    · left
      have hi2 : i = ds.length := by omega
      subst hi2
      rw [List.drop_length] at q2
      exact ⟨ws rfl, q2 σ2 G2 H2 s2 w2 e2⟩
theorem ds_for (hp : PassesOwn (model X.prog X.w) X.A X.env X.xe) (hc : X.calm = true) (hi : DI X E tg it mi) (hg : DG X tg g) (hb : DSs X E body ms) (hs : ∀ x, foldedSetIterable it X.env x = pure x := by intro _; rfl) : DS X E (.For tg it body [] pos) (sFor mi g ms) :=
  PS.imp (ps_for hp hc hi hg hb hs) fun _ _ _ h => readFor h

/-! ### while -/
def whl (t : MT) (body : MS) : Nat → Ev → Bag → SO
  | 0, _, _ => .stuck
  | n + 1, env, b => match t env b with
    | .stuck => .stuck
    | .exc e b => .exc e b
    | .ok false b => .nx env b
    | .ok true b => match body env b with
      | .nx env2 b2 => whl t body n env2 b2
      | .ct env2 b2 => whl t body n env2 b2
      | .bk env2 b2 => .nx env2 b2
      | o => o
def sWhile (n : Nat) (t : MT) (body : MS) : MS := fun env b => whl t body n env b
theorem readWhile {n : Nat} {K : PySem.W.Frag} {mg : Str → Option Value} {D : Ends} {σ : L2.St} {H : Hp} (h : tS K mg E (sWhile n mt ms) D σ H) : tWhile (tT K mg E mt) (tS K mg E ms) D σ H := by
  obtain ⟨pb, pg, G0, H0, env, b, G, st, w, ev, q⟩ := h
  refine ⟨fun m σ H => ∃ env b G, Stp (cx K mg pb pg) G0 H0 G H ∧ Wd (cx K mg pb pg) b G H ∧ EvOk (cx K mg pb pg) H0 G H env σ ∧ PstS (cx K mg pb pg) E G0 H0 D (whl mt ms m env b), ⟨n, env, b, G, st, w, ev, q⟩, ?_⟩
  rintro m σ2 H2 ⟨env2, b2, G2, s2, w2, e2, q2⟩
  cases m with
  | zero => exact q2.elim
  | succ m =>
    rw [whl] at q2
    refine ⟨pb, pg, H0, env2, b2, G2, w2, e2, ?_⟩
    cases ht : mt env2 b2 with
    | stuck => rw [ht] at q2; exact q2
    | exc e b3 => rw [ht] at q2; exact fun cls dd G' H' s w r => q2 cls dd G' H' (s2.trans s) w r
    | ok k b3 =>
      rw [ht] at q2
      intro v G3 H3 s3 w3 p3
      cases (show v = k from p3)
      cases k with
      | false =>
        rw [if_neg Bool.false_ne_true]
        exact q2 σ2 G3 H3 (s2.trans s3) w3 (e2.step s3)
      | true =>
        rw [if_pos rfl]
        dsimp only at q2
        refine ⟨fun σ4 H4 => ∃ env b G, Stp (cx K mg pb pg) G0 H0 G H4 ∧ Wd (cx K mg pb pg) b G H4 ∧ EvOk (cx K mg pb pg) H0 G H4 env σ4 ∧ PstS (cx K mg pb pg) E G0 H0 D (whl mt ms m env b), fun σ4 H4 h => ⟨m, Nat.lt_succ_self m, h⟩, pb, pg, G0, H0, env2, b3, G3, s2.trans s3, w3, e2.step s3, ?_⟩
        cases hb : ms env2 b3 with
        | nx env5 b5 => rw [hb] at q2; exact fun σ5 G5 H5 s5 w5 e5 => ⟨env5, b5, G5, s5, w5, e5, q2⟩
        | ct env5 b5 => rw [hb] at q2; exact fun σ5 G5 H5 s5 w5 e5 => ⟨env5, b5, G5, s5, w5, e5, q2⟩
        | bk env5 b5 => rw [hb] at q2; exact q2
        | rt d b5 => rw [hb] at q2; exact q2
        | exc e b5 => rw [hb] at q2; exact q2
        | stuck => rw [hb] at q2; exact q2
theorem ds_while {t : Expr} (n : Nat) (hp : PassesOwn (model X.prog X.w) X.A X.env X.xe) (hc : DT X E t mt) (hb : DSs X E body ms) : DS X E (.While t body [] pos) (sWhile n mt ms) :=
  PS.imp (ps_while hp hc hb) fun _ _ _ h => readWhile h

/-! ### list comprehensions -/
def wipeE (env : Ev) : List Nat → Ev
  | [] => env
  | v :: vs => (wipeE env vs).set v .un
/-- within a comprehension nothing is raised -/
def R.sq {α β : Type} (x : R α) (f : α → Bag → R β) : R β := match x with
  | .ok a b => f a b
  | _ => .stuck
@[simp] theorem R.sq_ok {α β : Type} (a : α) (b : Bag) (f : α → Bag → R β) : (R.ok a b).sq f = f a b := rfl
@[simp] theorem R.sq_exc {α β : Type} (e : Exn) (b : Bag) (f : α → Bag → R β) : (R.exc e b : R α).sq f = .stuck := rfl
@[simp] theorem R.sq_stuck {α β : Type} (f : α → Bag → R β) : (R.stuck : R α).sq f = .stuck := rfl
def lcL (g : MG) (t : MT) (el : ME) (env : Ev) : List D → Bag → R (List D)
  | [], b => .ok [] b
  | d :: ds, b => match g d env with
    | none => .stuck
    | some env1 => (t env1 b).sq fun k b => if k = true then (el env1 b).sq fun y b => (lcL g t el env ds b).bind fun r b => .ok (y :: r) b else lcL g t el env ds b
def mLc (mi : MI) (g : MG) (t : MT) (el : ME) (vs : List Nat) : ME := fun env b => (mi env b).bind fun ds b => if ds.length ≤ 100000 then (lcL g t el (wipeE env vs) ds b).bind fun r b => .ok (.lst r) b else .stuck
def mYes : MT := fun _ b => .ok true b
abbrev DTs (X : Cx) (E : XK) (ifs : List Expr) (m : MT) : Prop := PTs X ifs (tT X.K X.mg E m)
theorem PTs.imp {X : Cx} {e : List Expr} {t t' : TT} (h : PTs X e t) (k : ∀ σ H Q, t' σ H Q → t σ H Q) : PTs X e t' := ⟨fun pins s σ H Q I hq => h.run pins s σ H Q I (k _ _ _ hq)⟩
theorem dts_nil : DTs X E [] mYes := PTs.imp pts_nil fun σ H Q ⟨pb, pg, H0, env, b, G, w, ev, q⟩ => q true G H (Stp.refl _ _ _) w rfl
theorem dts_one (h : DT X E e mt) : DTs X E [e] mt := pts_one h
theorem EvOk.wipe {c : MC} {H0 G H : Hp} {env : Ev} {σ : L2.St} (h : EvOk c H0 G H env σ) : ∀ vs : List Nat, EvOk c H0 G H (wipeE env vs) (L2.wipe σ vs)
  | [] => h
  | v :: vs => by
    have ih := EvOk.wipe h vs
    unfold wipeE L2.wipe
    refine ⟨by rw [List.length_set, List.length_set]; exact ih.len, fun j s e => ?_, fun j k sj sk p ne e1 e2 o1 o2 p1 => ?_, ih.bb, ih.bg⟩
    · rw [List.getElem?_set] at e ⊢
      by_cases hij : v = j
      · subst hij
        rw [if_pos rfl] at e ⊢
        rw [← ih.len]
        split at e
        · rename_i hl
          cases e
          rw [if_pos hl]
          exact ⟨_, rfl, trivial⟩
        · cases e
      · rw [if_neg hij] at e ⊢
        exact ih.at_ j s e
    · rw [List.getElem?_set] at e1 e2 p1 ⊢
      by_cases hj : v = j
      · subst hj
        rw [if_pos rfl] at e1
        split at e1
        · cases e1; cases o1
        · cases e1
      · by_cases hk : v = k
        · subst hk
          rw [if_pos rfl] at e2
          split at e2
          · cases e2; cases o2
          · cases e2
        · rw [if_neg hj] at e1 p1
          rw [if_neg hk] at e2 ⊢
          exact ih.dis j k sj sk p ne e1 e2 o1 o2 p1
/-- a comprehension's target stores its own names alone -/
def tGc (K : PySem.W.Frag) (mg : Str → Option Value) (vs : List Nat) (m : MG) : TG := fun v σ H Q => ∃ pb pg H0 env b G d env', Wd (cx K mg pb pg) b G H ∧ EvOk (cx K mg pb pg) H0 G H env σ ∧ Rep (cx K mg pb pg) G d v ∧ m d env = some env' ∧ ∀ σ', EvOk (cx K mg pb pg) H0 G H env' σ' → L2.wipe σ' vs = L2.wipe σ vs → Q σ' H
def tGsc (K : PySem.W.Frag) (mg : Str → Option Value) (vs : List Nat) (m : MGs) : TGs := fun us σ H Q => ∃ pb pg H0 env b G ds env', Wd (cx K mg pb pg) b G H ∧ EvOk (cx K mg pb pg) H0 G H env σ ∧ Reps (cx K mg pb pg) G ds us ∧ m ds env = some env' ∧ ∀ σ', EvOk (cx K mg pb pg) H0 G H env' σ' → L2.wipe σ' vs = L2.wipe σ vs → Q σ' H
abbrev DGc (X : Cx) (vs : List Nat) (tg : Expr) (m : MG) : Prop := PG X tg (tGc X.K X.mg vs m)
abbrev DGsc (X : Cx) (vs : List Nat) (tg : List Expr) (m : MGs) : Prop := PGs X tg (tGsc X.K X.mg vs m)
theorem wipe_set {σ : L2.St} {i : Nat} {x : Option V} : ∀ {vs : List Nat}, i ∈ vs → L2.wipe (σ.set i x) vs = L2.wipe σ vs
  | v :: vs, h => by
    unfold L2.wipe
    by_cases hv : i ∈ vs
    · rw [wipe_set hv]
    · have e : i = v := by
        rcases List.mem_cons.mp h with h | h
        · exact h
        · exact absurd h hv
      subst e
      apply List.ext_getElem?
      intro j
      rw [List.getElem?_set, List.getElem?_set, wipe_length, wipe_length, List.length_set]
      by_cases hj : i = j
      · rw [if_pos hj, if_pos hj]
      · rw [if_neg hj, if_neg hj]
        by_cases hjv : j ∈ vs
        · rw [wipe_eq hjv, wipe_eq hjv]
          simp
        · rw [wipe_out hjv, wipe_out hjv, List.getElem?_set, if_neg hj]
where wipe_eq {σ : L2.St} {j : Nat} : ∀ {vs : List Nat}, j ∈ vs → (L2.wipe σ vs)[j]? = if j < σ.length then some none else none
  | v :: vs, h => by
    unfold L2.wipe
    rw [List.getElem?_set, wipe_length]
    by_cases hv : v = j
    · rw [if_pos hv, hv]
    · rw [if_neg hv]
      rcases List.mem_cons.mp h with h | h
      · exact absurd h.symm hv
      · exact wipe_eq h
theorem wipe_idem (σ : L2.St) (vs : List Nat) : L2.wipe (L2.wipe σ vs) vs = L2.wipe σ vs := by
  have gen : ∀ us : List Nat, (∀ u ∈ us, u ∈ vs) → L2.wipe (L2.wipe σ us) vs = L2.wipe σ vs := by
    intro us
    induction us with
    | nil => intro _; rfl
    | cons u us ih =>
      intro h
      show L2.wipe ((L2.wipe σ us).set u none) vs = _
      rw [wipe_set (h u (by simp)), ih fun x hx => h x (by simp [hx])]
  exact gen vs fun u h => h
theorem dgc_name (i : Nat) {x : Str} {vs : List Nat} (hv : i ∈ vs) (hN : X.N.Nodup) (hi : X.N[i]? = some x := by rfl) (hx : Loc X.env.scope x := by first | exact .inl rfl | exact .inr rfl) (hf : X.fn x = true ∨ X.env.scope.names.lookup x = some .local := by first | exact .inl rfl | exact .inr rfl | assumption) : DGc X vs (.Name x pos) (gNm i) :=
  PG.imp (pg_name hN hi hx hf) fun v σ H Q ⟨pb, pg, H0, env, b, G, d, env', w, ev, r, e, q⟩ => by
    cases e
    exact q _ (ev.set_va r i) (wipe_set hv)
theorem dgc_nil {vs : List Nat} : DGsc X vs [] gNl := PGs.imp pgs_nil fun us σ H Q ⟨pb, pg, H0, env, b, G, ds, env', w, ev, r, e, q⟩ => by
  cases ds with
  | nil =>
    cases e
    exact ⟨r, q σ ev rfl⟩
  | cons d ds => cases e
theorem dgc_cons {vs : List Nat} {es : List Expr} (h : DGc X vs tg g) (hr : DGsc X vs es gs) (hs : (assignEach (tg :: es) X.env).map (·.2) = assign tg X.env :: (assignEach es X.env).map (·.2) := by rfl) : DGsc X vs (tg :: es) (gCn g gs) :=
  PGs.imp (pgs_cons h hr hs) fun us σ H Q ⟨pb, pg, H0, env, b, G, ds, env', w, ev, r, e, q⟩ => by
    cases ds with
    | nil => cases e
    | cons d ds =>
      obtain ⟨v, ws, rfl, r1, r2⟩ := r
      simp only [gCn, Option.bind_eq_some_iff] at e
      obtain ⟨env1, e1, e2⟩ := e
      exact ⟨v, ws, rfl, pb, pg, H0, env, b, G, d, env1, w, ev, r1, e1, fun σ' ev' hw => ⟨pb, pg, H0, env1, b, G, ds, env', w, ev', r2, e2, fun σ2 ev2 hw2 => q σ2 ev2 (hw2.trans hw)⟩⟩
theorem dgc_tup {vs : List Nat} {es : List Expr} {k n : Nat} (hc : X.calm = true) (h : DGsc X vs es gs) (cn : Cnt gs n) (hn : (assignEach es X.env).length = n := by rfl) (hst : (assignEach es X.env).findIdx? (·.1) = none := by rfl) : DGc X vs (.Tuple es k pos) (gTp gs) :=
  PG.imp (pg_tup hc h hn hst) fun v σ H Q ⟨pb, pg, H0, env, b, G, d, env', w, ev, r, e, q⟩ => by
    cases d <;> first | (cases e; done) | skip
    · obtain ⟨p, ws, rfl, hp, r⟩ := r
      exact ⟨p, ws, rfl, .inl (.inl (w.tup hp)), by rw [← r.len]; exact cn.len _ _ _ e, pb, pg, H0, env, b, G, _, env', w, ev, r, e, q⟩
    · obtain ⟨p, ws, rfl, hp, r⟩ := r
      exact ⟨p, ws, rfl, .inr hp, by rw [← r.len]; exact cn.len _ _ _ e, pb, pg, H0, env, b, G, _, env', w, ev, r, e, q⟩
/-- a list that is being made -/
theorem Stp.putD {c : MC} {G1 H1 G H : Hp} (s : Stp c G1 H1 G H) {D : Addr} {o : HO} (h : H1 D = none) : Stp c G1 H1 G (upd H D o) := s.put h
theorem readLc {K : PySem.W.Frag} {mg : Str → Option Value} {σ : L2.St} {H : Hp} {Q : VK} {vs : List Nat} (h : tF K mg E (mLc mi g mt me vs) σ H Q) :
    tLc (tIC K mg E mi) (tGc K mg vs g) (tT K mg E0 mt) (tM K mg E0 me) vs σ H Q := by
  obtain ⟨pb, pg, H0, env, b, G, w, ev, q⟩ := h
  refine ⟨pb, pg, H0, env, b, G, w, ev, ?_⟩
  unfold mLc at q
  cases hm : mi env b with
  | stuck => rw [hm] at q; exact q.elim
  | exc e b1 => rw [hm] at q; exact q
  | ok ds b1 =>
    rw [hm] at q
    simp only [R.bind_ok] at q
    intro J G1 H1 s1 w1 wk Dl hD
    split at q
    · rename_i hz
      -- the state behind some turns: what is still to come gives, with what is made, the whole
      refine ⟨fun i m H2 => ∃ b2 G2 acc vs2, Stp (cx K mg pb pg) G1 H1 G2 H2 ∧ Wd (cx K mg pb pg) b2 G2 H2 ∧ H2 Dl = some (.lst vs2) ∧ G2 Dl = none ∧ Reps (cx K mg pb pg) G2 acc vs2 ∧ acc.length ≤ i ∧ m = ds.length - i ∧ i ≤ ds.length ∧
        (lcL g mt me (wipeE env vs) ds b1).bind (fun r b => .ok (.lst r) b) = (lcL g mt me (wipeE env vs) (ds.drop i) b2).bind (fun r b => R.ok (D.lst (acc ++ r)) b), ⟨ds.length, b1, G1, [], [], ?_⟩, ?_⟩
      · obtain ⟨sD, wD, gD⟩ := Stp.newO (o := .lst []) w1 hD
        exact ⟨sD, wD, upd_same, gD, .nil, Nat.zero_le _, rfl, Nat.zero_le _, rfl⟩
      · rintro i m H2 ⟨b2, G2, acc, vs2, s2, w2, hD2, gD2, r2, hacc, rfl, hi, heq⟩
        obtain ⟨wg, ws⟩ := wk i b2 G2 H2 s2 w2
        by_cases hlt : i < ds.length
        · right
          obtain ⟨go, yl⟩ := wg ds[i] (List.getElem?_eq_getElem hlt)
          rw [List.drop_eq_getElem_cons hlt, lcL] at heq
          refine ⟨go, fun H4 => ∃ b4 G4 acc4 vs4, Stp (cx K mg pb pg) G1 H1 G4 H4 ∧ Wd (cx K mg pb pg) b4 G4 H4 ∧ H4 Dl = some (.lst vs4) ∧ G4 Dl = none ∧ Reps (cx K mg pb pg) G4 acc4 vs4 ∧ acc4.length ≤ i + 1 ∧
            (lcL g mt me (wipeE env vs) ds b1).bind (fun r b => .ok (.lst r) b) = (lcL g mt me (wipeE env vs) (ds.drop (i + 1)) b4).bind (fun r b => R.ok (D.lst (acc4 ++ r)) b),
            fun H4 ⟨b4, G4, acc4, vs4, s4, w4, h4, g4, r4, l4, e4⟩ => ⟨ds.length - (i + 1), by omega, b4, G4, acc4, vs4, s4, w4, h4, g4, r4, l4, rfl, hlt, e4⟩, fun x H3 hy => ?_⟩
          obtain ⟨G3, s3, w3, r3⟩ := yl x H3 hy
          have evw : EvOk (cx K mg pb pg) H0 G3 H3 (wipeE env vs) (L2.wipe σ vs) := (((ev.step s1).step s2).step s3).wipe vs
          have qn : (R.stuck : R D) = (lcL g mt me (wipeE env vs) ds b1).bind (fun r b => .ok (.lst r) b) → False := fun z => by
            rw [← z] at q; exact q
          cases hg : g ds[i] (wipeE env vs) with
          | none => rw [hg] at heq; exact (qn heq.symm).elim
          | some env3 =>
            rw [hg] at heq
            dsimp only at heq
            refine ⟨pb, pg, H0, _, b2, G3, ds[i], env3, w3, evw, r3, hg, fun σ4 e4 hw4 => ⟨hw4.trans (wipe_idem σ vs), pb, pg, H0, env3, b2, G3, w3, e4, ?_⟩⟩
            cases ht : mt env3 b2 with
            | stuck => rw [ht] at heq; exact (qn heq.symm).elim
            | exc e b5 => rw [ht] at heq; exact (qn heq.symm).elim
            | ok k b5 =>
              rw [ht] at heq
              simp only [R.sq_ok] at heq
              intro v5 G5 H5 s5 w5 p5
              cases (show v5 = k from p5)
              have hD5 : H5 Dl = some (.lst vs2) := by
                have nb : Dl ≠ pb := fun z => by rw [z] at hD; exact w1.hbne hD
                have ng : Dl ≠ pg := fun z => by rw [z] at hD; exact w1.hgne hD
                exact s5.hn nb ng (s3.fr Dl (by rw [hD2]; exact fun z => nomatch z) gD2) (s3.hn nb ng gD2 hD2)
              have gD5 : G5 Dl = none := (s3.trans s5).fr Dl (by rw [hD2]; exact fun z => nomatch z) gD2
              have st5 := s2.trans (s3.trans s5)
              cases k with
              | false =>
                rw [if_neg Bool.false_ne_true] at heq ⊢
                exact ⟨b5, G5, acc, vs2, st5, w5, hD5, gD5, r2.mono (s3.trans s5).g, by omega, heq⟩
              | true =>
                rw [if_pos rfl] at heq ⊢
                refine ⟨pb, pg, H0, env3, b5, G5, w5, e4.step s5, ?_⟩
                cases hel : me env3 b5 with
                | stuck => rw [hel] at heq; exact (qn heq.symm).elim
                | exc e b6 => rw [hel] at heq; exact (qn heq.symm).elim
                | ok y b6 =>
                  rw [hel] at heq
                  simp only [R.sq_ok] at heq
                  intro v6 G6 H6 s6 w6 p6
                  have nb : Dl ≠ pb := fun z => by rw [z] at hD; exact w1.hbne hD
                  have ng : Dl ≠ pg := fun z => by rw [z] at hD; exact w1.hgne hD
                  have hD6 := s6.hn nb ng gD5 hD5
                  have gD6 : G6 Dl = none := s6.fr Dl (by rw [hD5]; exact fun z => nomatch z) gD5
                  have r6 := (r2.mono (s3.trans s5).g).mono s6.g
                  refine ⟨vs2, hD6, ?_, b6, G6, acc ++ [y], vs2 ++ [v6], (st5.trans s6).put hD, w6.put gD6 nb ng, upd_same, gD6, r6.append (.one p6), by rw [List.length_append]; simp; omega, ?_⟩
                  · have := r2.len
                    have : sizeLine = 16777216 := sizeLine_eq
                    omega
                  · rw [heq]
                    cases lcL g mt me (wipeE env vs) (ds.drop (i + 1)) b6 with
                    | ok r b7 => simp
                    | exc e b7 => rfl
                    | stuck => rfl
        · left
          have hi2 : i = ds.length := by omega
          subst hi2
          rw [List.drop_length] at heq
          refine ⟨ws rfl, ?_⟩
          rw [heq] at q
          simp only [lcL, R.bind_ok, List.append_nil] at q
          have hDn : H Dl = none := Classical.byContradiction fun z => s1.dm Dl z hD
          exact q (.ref Dl) G2 H2 (s1.trans s2) w2 ⟨Dl, vs2, rfl, hD2, gD2, hDn, r2⟩
    · exact q.elim
/-- [elt for tg in it if ..] -/
theorem df_lc {ifs : List Expr} {scope : Scope} {own : List (Str × Nat)} (hc : X.calm = true) (hN : X.N.Nodup) (hi : DIc X E tg it mi) (ok : BlkOk X.N X.env.scope scope own)
    (hg : ∀ (s : Shared) (H : Hp) (C : Addr) (cl : List (Str × Addr)) (fp : List Addr), DGc (X.blk s H scope (compEnvC scope cl C X.env) fp) (own.map (·.2)) tg g) (ht : ∀ (s : Shared) (H : Hp) (C : Addr) (cl : List (Str × Addr)) (fp : List Addr), DTs (X.blk s H scope (compEnvC scope cl C X.env) fp) E0 ifs mt)
    (he : ∀ (s : Shared) (H : Hp) (C : Addr) (cl : List (Str × Addr)) (fp : List Addr), DE (X.blk s H scope (compEnvC scope cl C X.env) fp) E0 elt me) (hs : ∀ x, foldedSetIterable it X.env x = pure x := by intro _; rfl) :
    DF X E (.ListComp elt [⟨tg, it, ifs, 0⟩] scope pos) (mLc mi g mt me (own.map (·.2))) :=
  PE.imp (pe_lc hc hN hi ok hg ht he hs) fun σ H Q h => readLc h
end
end Mr

set_option Elab.async false
set_option linter.all false
set_option maxRecDepth 100000
namespace Mr
open PySem PySem.Spec L2

/-! ### defs -/
abbrev MF := List D → Bag → R D
/-- nothing is raised -/
def R.nox {α : Type} (x : R α) : R α := match x with
  | .ok a b => .ok a b
  | _ => .stuck
@[simp] theorem R.nox_ok {α : Type} (a : α) (b : Bag) : (R.ok a b).nox = .ok a b := rfl
@[simp] theorem R.nox_exc {α : Type} (e : Exn) (b : Bag) : (R.exc e b : R α).nox = .stuck := rfl
@[simp] theorem R.nox_stuck {α : Type} : (R.stuck : R α).nox = .stuck := rfl
/-- a def's promise: what its mirror hands back -/
def spM (K : PySem.W.Frag) (mg : Str → Option Value) (n : Nat) (fm : MF) : Sp := fun vs H Q E => ∃ pb pg G b ds, Wd (cx K mg pb pg) b G H ∧ Reps (cx K mg pb pg) G ds vs ∧ ds.length = n ∧ PstG (cx K mg pb pg) E G H (pM (cx K mg pb pg)) Q (fm ds b)
def spM0 (K : PySem.W.Frag) (mg : Str → Option Value) (n : Nat) (fm : MF) : Sp := fun vs H Q _ => ∃ pb pg G b ds, Wd (cx K mg pb pg) b G H ∧ Reps (cx K mg pb pg) G ds vs ∧ ds.length = n ∧ PstG (cx K mg pb pg) E0 G H (pM (cx K mg pb pg)) Q (fm ds b).nox
def fnM (n : Nat) (ms : MS) : MF := fun ds b => match ms (ds.map Sl.va ++ List.replicate (n - ds.length) .un) b with
  | .nx _ b => .ok .non b
  | .rt d b => .ok d b
  | .exc e b => .exc e b
  | _ => .stuck
def mCall (fm : MF) (ma : MA) : ME := fun env b => (ma env b).bind fun ds b => fm ds b
def mCall0 (fm : MF) (ma : MA) : ME := fun env b => (ma env b).bind fun ds b => (fm ds b).nox
/-- a def of the text that stands behind the top, its promise -/
structure Fk (P : Program) (w : World) (K : PySem.W.Frag) (mg : Str → Option Value) (base : Heap) (CX : CXT) (x : Str) (k : Nat) (n : Nat) (sp : Sp) : Prop where
  ex : ∃ (f : Addr) (fd : FuncData) (ps : List Str), mg x = some (.ref f) ∧ PySem.W.keepIn K (.ref f) = true ∧ Binds K fd ps [] ∧ FnOk P w K mg base CX k f fd ps sp
abbrev F0 (P : Program) (w : World) (K : PySem.W.Frag) (mg : Str → Option Value) (base : Heap) (x : Str) (k : Nat) (n : Nat) (fm : MF) : Prop := Fk P w K mg base CX0 x k n (spM0 K mg n fm)
abbrev F1 (P : Program) (w : World) (K : PySem.W.Frag) (mg : Str → Option Value) (base : Heap) (x : Str) (k : Nat) (n : Nat) (fm : MF) : Prop := Fk P w K mg base (L2.CX P w) x k n (spM K mg n fm)
section
variable {X : Cx} {E : XK} {e : Expr} {es : List Expr} {mr : MA} {pos p : Pos} {fm : MF} {k n : Nat} {x : Str}
theorem da_len {m : MA} (h : DA X E es m) : True := trivial
/-- how many arguments a list of mirrors has -/
structure CntA (m : MA) (n : Nat) : Prop where
  len : ∀ env b ds b', m env b = .ok ds b' → ds.length = n
theorem cntA_nil : CntA mNil 0 := ⟨fun env b ds b' h => by cases h; rfl⟩
theorem cntA_cons {ma : ME} {n : Nat} (h : CntA mr n) : CntA (mCons ma mr) (n + 1) := ⟨fun env b ds b' e => by
  unfold mCons at e
  cases h1 : ma env b with
  | ok a b1 =>
    rw [h1] at e
    simp only [R.bind_ok] at e
    cases h2 : mr env b1 with
    | ok as b2 =>
      rw [h2] at e
      cases e
      rw [List.length_cons, h.len _ _ _ _ h2]
    | exc _ _ => rw [h2] at e; cases e
    | stuck => rw [h2] at e; cases e
  | exc _ _ => rw [h1] at e; cases e
  | stuck => rw [h1] at e; cases e⟩
theorem readCall0 {K : PySem.W.Frag} {mg : Str → Option Value} {σ : L2.St} {H : Hp} {Q : VK} (cn : CntA mr n) (h : tM K mg E (mCall0 fm mr) σ H Q) : tCall (spM0 K mg n fm) [] E0 (tA K mg E mr) σ H Q := by
  obtain ⟨pb, pg, H0, env, b, G, w, ev, q⟩ := h
  refine ⟨pb, pg, H0, env, b, G, w, ev, ?_⟩
  unfold mCall0 at q
  cases hm : mr env b with
  | stuck => rw [hm] at q; exact q
  | exc e b1 => rw [hm] at q; exact q
  | ok ds b1 =>
    rw [hm] at q
    simp only [R.bind_ok] at q
    intro vs G1 H1 s1 w1 r1
    refine ⟨pb, pg, G1, b1, ds, w1, by rw [List.append_nil]; exact r1, cn.len _ _ _ _ hm, ?_⟩
    cases hf : fm ds b1 with
    | ok d b2 => rw [hf] at q; exact PstG.of s1 q
    | exc e b2 => rw [hf] at q; exact q.elim
    | stuck => rw [hf] at q; exact q.elim
theorem readCall {K : PySem.W.Frag} {mg : Str → Option Value} {σ : L2.St} {H : Hp} {Q : VK} (cn : CntA mr n) (h : tM K mg E (mCall fm mr) σ H Q) : tCall (spM K mg n fm) [] E (tA K mg E mr) σ H Q := by
  obtain ⟨pb, pg, H0, env, b, G, w, ev, q⟩ := h
  refine ⟨pb, pg, H0, env, b, G, w, ev, ?_⟩
  unfold mCall at q
  cases hm : mr env b with
  | stuck => rw [hm] at q; exact q
  | exc e b1 => rw [hm] at q; exact q
  | ok ds b1 =>
    rw [hm] at q
    simp only [R.bind_ok] at q
    intro vs G1 H1 s1 w1 r1
    exact ⟨pb, pg, G1, b1, ds, w1, by rw [List.append_nil]; exact r1, cn.len _ _ _ _ hm, PstG.of s1 q⟩
theorem de_call0 {j : Nat} (F : F0 X.prog X.w X.K X.mg X.base x k n fm) (hr : Room j X.A) (hg : Gl X x) (ha : DA X E (e :: es) mr) (cn : CntA mr n) (hj : k ≤ j := by decide) (hdb : (x == ("__debug__" : Str)) = false := by decide)
    (he : starEach (e :: es) X.env = (false, eval e X.env) :: starEach es X.env := by rfl) (hpl : (backTo pos (starEach es X.env)).any (·.1) = false := by rfl) : DE X E (.Call (.Name x p) (e :: es) [] pos) (mCall0 fm mr) := by
  obtain ⟨f, fd, ps, hm, hk, hb, G⟩ := F.ex
  exact PE.imp (pe_call G (hr.mono hj) hg hm hk hb .nil pass0 ha hdb he hpl) fun _ _ _ h => readCall0 cn h
/-- a def that may raise: what it raises is wished as here -/
theorem de_call {j : Nat} (F : F1 X.prog X.w X.K X.mg X.base x k n fm) (hr : Room j X.A) (hg : Gl X x) (hx : Passes (L2.CX X.prog X.w) X E) (ha : DA X E (e :: es) mr) (cn : CntA mr n) (hj : k ≤ j := by decide) (hdb : (x == ("__debug__" : Str)) = false := by decide)
    (he : starEach (e :: es) X.env = (false, eval e X.env) :: starEach es X.env := by rfl) (hpl : (backTo pos (starEach es X.env)).any (·.1) = false := by rfl) : DE X E (.Call (.Name x p) (e :: es) [] pos) (mCall fm mr) := by
  obtain ⟨f, fd, ps, hm, hk, hb, G⟩ := F.ex
  exact PE.imp (pe_call G (hr.mono hj) hg hm hk hb .nil hx ha hdb he hpl) fun _ _ _ h => readCall cn h
end

theorem ev_start {c : MC} {b : Bag} {G H : Hp} (w : Wd c b G H) {ds : List D} {vs : List V} (r : Reps c G ds vs) (N : List Str) : EvOk c H G H (ds.map Sl.va ++ List.replicate (N.length - ds.length) .un) (L2.start N vs) := by
  have l := r.len
  have noOwn : ∀ (i : Nat) (s : Sl), (ds.map Sl.va ++ List.replicate (N.length - ds.length) Sl.un)[i]? = some s → s.own = false := by
    intro i s e
    have hm := List.mem_of_getElem? e
    rw [List.mem_append] at hm
    rcases hm with hm | hm
    · obtain ⟨d, _, rfl⟩ := List.mem_map.mp hm
      rfl
    · rw [(List.mem_replicate.mp hm).2]; rfl
  refine ⟨?_, fun i s e => ?_, fun i j si sj p ne e1 e2 o1 o2 => ?_, w.hbne, w.hgne⟩
  · unfold L2.start
    rw [List.length_append, List.length_append, List.length_map, List.length_map, List.length_replicate, List.length_replicate, l]
  · unfold L2.start
    by_cases hi : i < ds.length
    · rw [List.getElem?_append_left (by rw [List.length_map]; exact hi), List.getElem?_map] at e
      rw [List.getElem?_append_left (by rw [List.length_map, ← l]; exact hi), List.getElem?_map]
      cases hd : ds[i]? with
      | none => rw [hd] at e; cases e
      | some d =>
        rw [hd] at e
        cases e
        obtain ⟨v, hv, rv⟩ := r.get hd
        rw [hv]
        exact ⟨some v, rfl, v, rfl, rv⟩
    · rw [List.getElem?_append_right (by rw [List.length_map]; omega), List.length_map] at e
      rw [List.getElem?_append_right (by rw [List.length_map, ← l]; omega), List.length_map, ← l]
      rw [List.getElem?_replicate] at e ⊢
      split at e
      · rename_i h
        cases e
        rw [if_pos h]
        exact ⟨none, rfl, trivial⟩
      · cases e
  · rw [noOwn i si e1] at o1
    cases o1

section
variable {P : Program} {w : World} {K : PySem.W.Frag} {mg : Str → Option Value} {base : Heap} {x qual : Str} {st : Stmt} {f : Addr} {fd : FuncData} {N ps : List Str} {k : Nat} {ms : MS}
theorem fn_read0 {E : XK} {Q : VK} {vs : List V} {H : Hp} {n : Nat} (h : spM0 K mg n (fnM N.length ms) vs H Q E) : tS K mg E0 ms { nx := fun _ H' => Q .non H', rt := Q } (L2.start N vs) H := by
  obtain ⟨pb, pg, G, b, ds, w, r, hl, q⟩ := h
  refine ⟨pb, pg, G, H, _, b, G, Stp.refl _ _ _, w, ev_start w r N, ?_⟩
  unfold fnM at q
  cases hm : ms (ds.map Sl.va ++ List.replicate (N.length - ds.length) .un) b with
  | nx env b1 => rw [hm] at q; exact fun σ G' H' s w _ => q .non G' H' s w rfl
  | rt d b1 => rw [hm] at q; exact q
  | exc e b1 => rw [hm] at q; exact q.elim
  | bk env b1 => rw [hm] at q; exact q.elim
  | ct env b1 => rw [hm] at q; exact q.elim
  | stuck => rw [hm] at q; exact q.elim
theorem fn_read {E : XK} {Q : VK} {vs : List V} {H : Hp} {n : Nat} (h : spM K mg n (fnM N.length ms) vs H Q E) : tS K mg E ms { nx := fun _ H' => Q .non H', rt := Q } (L2.start N vs) H := by
  obtain ⟨pb, pg, G, b, ds, w, r, hl, q⟩ := h
  refine ⟨pb, pg, G, H, _, b, G, Stp.refl _ _ _, w, ev_start w r N, ?_⟩
  unfold fnM at q
  cases hm : ms (ds.map Sl.va ++ List.replicate (N.length - ds.length) .un) b with
  | nx env b1 => rw [hm] at q; exact fun σ G' H' s w _ => q .non G' H' s w rfl
  | rt d b1 => rw [hm] at q; exact q
  | exc e b1 => rw [hm] at q; exact q
  | bk env b1 => rw [hm] at q; exact q.elim
  | ct env b1 => rw [hm] at q; exact q.elim
  | stuck => rw [hm] at q; exact q.elim
/-- a def that raises nothing -/
theorem fn_ok0 (F : Fun K x qual st f fd) (S : FnScope N ps (defScope st)) (hm : mg x = some (.ref f)) (hb : Binds K fd ps [])
    (hbody : ∀ (cdv : Value) (A : Around) (outer : List Env) (s : Shared) (H : Hp) (E : XK), Room k (A.deeper (PyProof.Rows.envOfC qual (defScope st) s.heap.objs.size f cdv)) →
      DSs (cxOf CX0 P w K mg base N qual (defScope st) f cdv A outer s H E).nox E0 (defBody st) ms) : F0 P w K mg base x (k + 1) ps.length (fnM N.length ms) := by
  refine ⟨f, fd, ps, hm, F.kp, hb, F.ok S (fun vs H Q E h => ?_) fun cdv A outer s H vs Q E hr h => ⟨_, hbody cdv A outer s H E hr, fn_read0 h⟩⟩
  obtain ⟨pb, pg, G, b, ds, w, r, hl, q⟩ := h
  rw [← hl, r.len]
/-- a def that may raise -/
theorem fn_ok1 (F : Fun K x qual st f fd) (S : FnScope N ps (defScope st)) (hm : mg x = some (.ref f)) (hb : Binds K fd ps [])
    (hbody : ∀ (cdv : Value) (A : Around) (outer : List Env) (s : Shared) (H : Hp) (E : XK), Room k (A.deeper (PyProof.Rows.envOfC qual (defScope st) s.heap.objs.size f cdv)) →
      DSs (cxOf (L2.CX P w) P w K mg base N qual (defScope st) f cdv A outer s H E) E (defBody st) ms) : F1 P w K mg base x (k + 1) ps.length (fnM N.length ms) := by
  refine ⟨f, fd, ps, hm, F.kp, hb, F.okX S (fun vs H Q E h => ?_) fun cdv A outer s H vs Q E hr h => ⟨_, hbody cdv A outer s H E hr, fn_read h⟩⟩
  obtain ⟨pb, pg, G, b, ds, w, r, hl, q⟩ := h
  rw [← hl, r.len]
end
end Mr

set_option Elab.async false
set_option linter.all false
set_option maxRecDepth 100000
namespace Mr
open PySem PySem.Spec L2

section
variable {c : MC} {b : Bag} {G H G' H' G0 H0 : Hp} {env : Ev} {σ : L2.St}
/-- a slot's own list -/
theorem EvOk.ol (h : EvOk c H0 G H env σ) {i : Nat} {ds : List D} (e : env[i]? = some (.ol ds)) : ∃ p vs, σ[i]? = some (some (.ref p)) ∧ H p = some (.lst vs) ∧ G p = none ∧ H0 p = none ∧ Reps c G ds vs := by
  obtain ⟨v, ev, p, vs, rfl, q⟩ := h.at_ i _ e
  exact ⟨p, vs, ev, q⟩
theorem EvOk.putL (h : EvOk c H0 G H env σ) {i : Nat} {ds : List D} {p : Addr} {vs vs' : List V} {ds' : List D} (e : env[i]? = some (.ol ds)) (e2 : σ[i]? = some (some (.ref p))) (gp : G p = none) (h0 : H0 p = none) (r : Reps c G ds' vs') :
    EvOk c H0 G (upd H p (.lst vs')) (env.set i (.ol ds')) σ := h.put e rfl e2 h0 (s := .ol ds') ⟨p, vs', rfl, upd_same, gp, h0, r⟩ rfl
end

/-- a statement that changes a slot's own list by what it is handed -/
def sMeth (i : Nat) (ma : MA) (g : List D → List D → Option (List D)) : MS := fun env b => match env[i]? with
  | some (.ol ds) => (ma env b).so fun as b => match g ds as with
    | some ds' => .nx (env.set i (.ol ds')) b
    | none => .stuck
  | _ => .stuck
def appG (ds as : List D) : Option (List D) := match as with
  | [d] => if ds.length < 100000 then some (ds ++ [d]) else none
  | _ => none
def insG (ds as : List D) : Option (List D) := match as with
  | [.int i, d] => if ds.length < 100000 ∧ 0 ≤ i ∧ i < 1000000 then some (ds.take i.toNat ++ [d] ++ ds.drop i.toNat) else none
  | _ => none
def extG (ds as : List D) : Option (List D) := match as with
  | [.lst es] => if ds.length + es.length ≤ 100000 then some (ds ++ es) else none
  | _ => none
/-- a position that is popped -/
def popAt (n : Nat) (i : Int) : Option Nat := ixN n i
def sz_lt {n : Nat} (h : n < 100000) : n < sizeLine := Nat.lt_of_lt_of_le h (by decide)
section
variable {X : Cx} {E : XK} {e tg it elt a a2 : Expr} {es : List Expr} {st : Stmt} {sts body : List Stmt} {ma mb me : ME} {mr : MA} {mi : MI} {mt : MT} {ms mu : MS} {g : MG} {gs : MGs} {pos p p2 : Pos}
theorem one_read {K : PySem.W.Frag} {mg : Str → Option Value} {σ : L2.St} {H : Hp} {Q : List V → Hp → Prop} {m : ME} (h : tM K mg E m σ H fun v H' => Q [v] H') : tCons (tM K mg E m) tNil σ H Q := h
theorem readMeth {K : PySem.W.Frag} {mg : Str → Option Value} {Dn : Ends} {σ : L2.St} {H : Hp} {i : Nat} {gg : List D → List D → Option (List D)} {r : V → List V → Hp → VK → Prop} (h : tS K mg E (sMeth i mr gg) Dn σ H)
    (hr : ∀ (c : MC) (G H : Hp) (p : Addr) (vs : List V) (ds as ds' : List D) (ws : List V) (Q : VK), H p = some (.lst vs) → Reps c G ds vs → Reps c G as ws → (∀ a xs, G a = some (.lst xs) → Rd H a (.lst xs)) → gg ds as = some ds' → (∀ vs', Reps c G ds' vs' → Q .non (upd H p (.lst vs'))) → r (.ref p) ws H Q) :
    tDrop (tBM K "list" r (tVar i) (tA K mg E mr)) Dn σ H := by
  obtain ⟨pb, pg, G0, H0, env, b, G, st, w, ev, q⟩ := h
  unfold sMeth at q
  split at q
  · rename_i ds he
    obtain ⟨p, vs, e2, hp, gp, h0, rr⟩ := ev.ol he
    refine ⟨.ref p, e2, .inl ⟨rfl, vs, .inl (.inl hp)⟩, pb, pg, H0, env, b, G, w, ev, PstS.bind st q fun a1 b1 v1 G1 H1 s1 w1 p1 q1 => ?_⟩
    have ev1 := ev.step s1
    obtain ⟨p', vs', e2', hp', gp', h0', rr'⟩ := ev1.ol he
    rw [e2] at e2'
    cases e2'
    cases hg : gg ds a1 with
    | none => rw [hg] at q1; exact q1.elim
    | some ds' =>
      rw [hg] at q1
      refine hr _ G1 H1 p vs' ds a1 ds' v1 _ hp' rr' p1 (fun a xs e => w1.rd e) hg fun vs2 r2 => ?_
      exact q1 σ G1 _ ((st.trans s1).put h0') (w1.put gp' (ne_h0 ev1.bb h0') (ne_h0 ev1.bg h0')) (ev1.putL (vs := vs') he e2 gp' h0' r2)
  · exact q.elim
theorem mt_extendR : MtR X "list.extend" (fun x vs H Q => ∃ l b xs zs, x = .ref l ∧ vs = [.ref b] ∧ H l = some (.lst xs) ∧ Rd H b (.lst zs) ∧ xs.length + zs.length ≤ sizeLine ∧ Q .non (upd H l (.lst (xs ++ zs)))) := by
  intro pins s σ H x vs v us Q I rx rv h
  obtain ⟨l, b, xs, zs, rfl, rfl, hH, hB, hz, q⟩ := h
  cases rx
  obtain ⟨u, rfl, ru⟩ := rv.one
  cases ru
  obtain ⟨z, its, n, r, hl, e⟩ := I.lstM hH
  obtain ⟨z2, its2, n2, r2, hl2, e2⟩ := inv_lstR I hB
  have hsz : its.toArray.size + its2.toArray.size ≤ sizeLine := by rw [List.size_toArray, List.size_toArray]; omega
  have hlong : ¬ (!its.toArray.isEmpty && Builtin.List.listTooLong (its.toArray.size + its2.toArray.size)) = true := by
    rw [notLongL hsz, Bool.and_false]
    exact Bool.false_ne_true
  refine call_meets F.slot_list_extend ⟨_, e, rfl⟩ F.entry_list_extend (F.args_list_extend_2 _ _)
    (AutoSeq1.list_extend_list_list_0 l its.toArray n b its2.toArray n2 hlong (by rw [List.size_toArray]; omega) (by omega)) ⟨e, e2, ?_⟩
  refine ⟨.non, _, I.lset (its' := its ++ its2) (t' := s.toks) hH e (by simp) (r.append r2) ?_, rfl, q⟩
  rw [List.length_append]
  omega
/-- x.append(e) -/
theorem ds_app (i : Nat) {x : Str} {apos cpos : Pos} (h : DA X E [e] mr) (hN : X.N[i]? = some x := by rfl) (hv : Vis X.env.scope x := by first | exact Or.inl rfl | exact Or.inr (Or.inl rfl) | exact Or.inr (Or.inr rfl)) (hd : (x == ("__debug__" : Str)) = false := by decide)
    (hcd : (x == ("__classdict__" : Str)) = false := by decide) (h1 : attributeBase (.Name x p) "append" X.env (eval (.Name x p) X.env) = eval (.Name x p) X.env := by rfl) (hf : ((backTo cpos (starEach ([e]) X.env)).all (fun x => !x.1) && (backToKw cpos (keywordEach [] X.env)).all (fun x => x.1.isSome) && decide (([e]).length + ([] : List Keyword).length + (if ([] : List Keyword).isEmpty then 0 else 1) < 30)) = true := by rfl) (h2 : (apos.endLine == cpos.line) = true := by rfl) (he : starEach [e] X.env = (false, eval e X.env) :: starEach [] X.env := by rfl) (hpl : (backTo cpos (starEach ([] : List Expr) X.env)).any (·.1) = false := by rfl)
    (hs : swapsWith (.Call (.Attribute (.Name x p) "append" apos) [e] [] cpos) none pos.line X.env = pure false := by rfl) : DS X E (.Expr (.Call (.Attribute (.Name x p) "append" apos) [e] [] cpos) pos) (sMeth i mr appG) :=
  PS.imp (ps_expr (pe_bm PySem.F.plainAttrs_list PySem.F.slot_list_append PySem.F.type_list_append mt_append (pe_var hN hv hd hcd) h h1 hf h2 he hpl) hs) fun _ _ _ hh => readMeth hh fun c G H p vs ds as ds' ws Q hp r1 r2 _ hg q => by
    unfold appG at hg
    split at hg
    · rename_i d
      obtain ⟨hz, rfl⟩ := ite_some hg
      obtain ⟨v, ws', rfl, rd, rn⟩ := r2
      cases (show ws' = [] from rn)
      exact ⟨p, vs, v, rfl, rfl, hp, sz_lt (by rw [← r1.len]; exact hz), q _ (r1.append (.one rd))⟩
    · cases hg
theorem ds_ins (i : Nat) {x : Str} {apos cpos : Pos} (h : DA X E [e, a2] mr) (hN : X.N[i]? = some x := by rfl) (hv : Vis X.env.scope x := by first | exact Or.inl rfl | exact Or.inr (Or.inl rfl) | exact Or.inr (Or.inr rfl)) (hd : (x == ("__debug__" : Str)) = false := by decide)
    (hcd : (x == ("__classdict__" : Str)) = false := by decide) (h1 : attributeBase (.Name x p) "insert" X.env (eval (.Name x p) X.env) = eval (.Name x p) X.env := by rfl) (hf : ((backTo cpos (starEach ([e, a2]) X.env)).all (fun x => !x.1) && (backToKw cpos (keywordEach [] X.env)).all (fun x => x.1.isSome) && decide (([e, a2]).length + ([] : List Keyword).length + (if ([] : List Keyword).isEmpty then 0 else 1) < 30)) = true := by rfl) (h2 : (apos.endLine == cpos.line) = true := by rfl) (he : starEach [e, a2] X.env = (false, eval e X.env) :: starEach [a2] X.env := by rfl) (hpl : (backTo cpos (starEach [a2] X.env)).any (·.1) = false := by rfl)
    (hs : swapsWith (.Call (.Attribute (.Name x p) "insert" apos) [e, a2] [] cpos) none pos.line X.env = pure false := by rfl) : DS X E (.Expr (.Call (.Attribute (.Name x p) "insert" apos) [e, a2] [] cpos) pos) (sMeth i mr insG) :=
  PS.imp (ps_expr (pe_bm PySem.F.plainAttrs_list PySem.F.slot_list_insert PySem.F.type_list_insert mt_insert (pe_var hN hv hd hcd) h h1 hf h2 he hpl) hs) fun _ _ _ hh => readMeth hh fun c G H p vs ds as ds' ws Q hp r1 r2 _ hg q => by
    unfold insG at hg
    split at hg
    · rename_i k d
      obtain ⟨hz, rfl⟩ := ite_some hg
      obtain ⟨v, ws', rfl, rd, v2, ws2, rfl, rd2, rn⟩ := r2
      cases (show ws2 = [] from rn)
      cases (show v = .int k from rd)
      exact ⟨p, vs, k, v2, rfl, rfl, hp, sz_lt (by rw [← r1.len]; exact hz.1), hz.2.1, by omega, q _ (((r1.take _).append (.one rd2)).append (r1.drop _))⟩
    · cases hg
theorem ds_ext (i : Nat) {x : Str} {apos cpos : Pos} (h : DA X E [e] mr) (hN : X.N[i]? = some x := by rfl) (hv : Vis X.env.scope x := by first | exact Or.inl rfl | exact Or.inr (Or.inl rfl) | exact Or.inr (Or.inr rfl)) (hd : (x == ("__debug__" : Str)) = false := by decide)
    (hcd : (x == ("__classdict__" : Str)) = false := by decide) (h1 : attributeBase (.Name x p) "extend" X.env (eval (.Name x p) X.env) = eval (.Name x p) X.env := by rfl) (hf : ((backTo cpos (starEach ([e]) X.env)).all (fun x => !x.1) && (backToKw cpos (keywordEach [] X.env)).all (fun x => x.1.isSome) && decide (([e]).length + ([] : List Keyword).length + (if ([] : List Keyword).isEmpty then 0 else 1) < 30)) = true := by rfl) (h2 : (apos.endLine == cpos.line) = true := by rfl) (he : starEach [e] X.env = (false, eval e X.env) :: starEach [] X.env := by rfl) (hpl : (backTo cpos (starEach ([] : List Expr) X.env)).any (·.1) = false := by rfl)
    (hs : swapsWith (.Call (.Attribute (.Name x p) "extend" apos) [e] [] cpos) none pos.line X.env = pure false := by rfl) : DS X E (.Expr (.Call (.Attribute (.Name x p) "extend" apos) [e] [] cpos) pos) (sMeth i mr extG) :=
  PS.imp (ps_expr (pe_bm PySem.F.plainAttrs_list PySem.F.slot_list_extend PySem.F.type_list_extend mt_extendR (pe_var hN hv hd hcd) h h1 hf h2 he hpl) hs) fun _ _ _ hh => readMeth hh fun c G H p vs ds as ds' ws Q hp r1 r2 hw hg q => by
    unfold extG at hg
    split at hg
    · rename_i es
      obtain ⟨hz, rfl⟩ := ite_some hg
      obtain ⟨v, ws', rfl, ⟨p3, vs3, rfl, hp3, r3⟩, rn⟩ := r2
      cases (show ws' = [] from rn)
      exact ⟨p, p3, vs, vs3, rfl, rfl, hp, hw _ _ hp3, sz_of (by rw [← r1.len, ← r3.len]; exact hz), q _ (r1.append r3)⟩
    · cases hg

/-! ### several names at once -/
abbrev MSl := Ev → Bag → R (List Sl)
def slNil : MSl := fun _ b => .ok [] b
def slM (m : ME) (r : MSl) : MSl := fun env b => (m env b).bind fun d b => (r env b).bind fun ss b => .ok (.va d :: ss) b
def slF (m : ME) (r : MSl) : MSl := fun env b => (m env b).bind fun d b => match ownS d with
  | some s => (r env b).bind fun ss b => .ok (s :: ss) b
  | none => .stuck
end
/-- new slots: their objects are new, one of each -/
def SlsNew (c : MC) (H1 G H : Hp) : List Sl → List V → Prop
  | [], vs => vs = []
  | s :: ss, vs => ∃ v ws, vs = v :: ws ∧ SlOk c H1 G H s (some v) ∧ SlsNew c H1 G H ss ws ∧ (s.own = true → ∀ (j : Nat) (sj : Sl), ss[j]? = some sj → sj.own = true → ws[j]? ≠ some v)
def tSl (K : PySem.W.Frag) (mg : Str → Option Value) (E : XK) (m : MSl) : TA := fun σ H Q => ∃ pb pg H0 env b G, Wd (cx K mg pb pg) b G H ∧ EvOk (cx K mg pb pg) H0 G H env σ ∧ PstG (cx K mg pb pg) E G H (SlsNew (cx K mg pb pg) H) Q (m env b)
abbrev DSl (X : Cx) (E : XK) (es : List Expr) (m : MSl) : Prop := PA X es (tSl X.K X.mg E m)
/-- own slots, seen from an earlier heap -/
theorem SlOk.weak {c : MC} {H H1 G2 H2 : Hp} (k : ∀ a, H a ≠ none → H1 a ≠ none) {s : Sl} {v : Option V} (h : SlOk c H1 G2 H2 s v) : SlOk c H G2 H2 s v := by
  have kk : ∀ p, H1 p = none → H p = none := fun p e => Classical.byContradiction fun z => k p z e
  cases s with
  | un => trivial
  | va d => exact h
  | ol ds => obtain ⟨p, vs, e, hp, gp, h0, r⟩ := h; exact ⟨p, vs, e, hp, gp, kk p h0, r⟩
  | oK ks ds => obtain ⟨p, vs, e, hp, l, gp, h0, r⟩ := h; exact ⟨p, vs, e, hp, l, gp, kk p h0, r⟩
  | oT ks ds => obtain ⟨p, vs, e, hp, l, gp, h0, r⟩ := h; exact ⟨p, vs, e, hp, l, gp, kk p h0, r⟩
theorem SlsNew.weak {c : MC} {H H1 G2 H2 : Hp} (k : ∀ a, H a ≠ none → H1 a ≠ none) : ∀ {ss : List Sl} {vs : List V}, SlsNew c H1 G2 H2 ss vs → SlsNew c H G2 H2 ss vs
  | [], _, h => h
  | _ :: _, _, ⟨v, ws, e, h1, h2, h3⟩ => ⟨v, ws, e, h1.weak k, SlsNew.weak k h2, h3⟩
/-- an own new slot has an object that was not there -/
theorem SlsNew.fresh {c : MC} {H1 G2 H2 : Hp} : ∀ {ss : List Sl} {vs : List V} {j : Nat} {sj : Sl} {p : Addr}, SlsNew c H1 G2 H2 ss vs → ss[j]? = some sj → sj.own = true → vs[j]? = some (.ref p) → H1 p = none
  | [], _, _, _, _, _, e, _, _ => by simp at e
  | s :: ss, _, 0, sj, p, ⟨v, ws, rfl, h1, h2, h3⟩, e, o, ev => by
    have e1 : s = sj := by simpa using e
    have e2 : v = .ref p := by simpa using ev
    subst e1 e2
    obtain ⟨p', u, e', _, _, _, h0, _⟩ := own_ref h1 o
    cases e'
    exact h0
  | s :: ss, _, j + 1, sj, p, ⟨v, ws, rfl, h1, h2, h3⟩, e, o, ev => SlsNew.fresh h2 (j := j) (by simpa using e) o (by simpa using ev)
section
variable {X : Cx} {E : XK} {e : Expr} {es : List Expr} {ma : ME} {mr : MSl} {pos : Pos}
theorem dsl_nil : DSl X E [] slNil := PA.imp pa_nil fun σ H Q ⟨pb, pg, H0, env, b, G, w, ev, q⟩ => q [] G H (Stp.refl _ _ _) w rfl
theorem dsl_m (ha : DE X E e ma) (hr : DSl X E es mr) (hs : starEach (e :: es) X.env = (false, eval e X.env) :: starEach es X.env := by rfl) : DSl X E (e :: es) (slM ma mr) :=
  PA.imp (pa_cons ha hr hs) fun σ H Q ⟨pb, pg, H0, env, b, G, w, ev, q⟩ => ⟨pb, pg, H0, env, b, G, w, ev, PstG.bind q fun a1 b1 v1 G1 H1 s1 w1 p1 q1 =>
    ⟨pb, pg, H0, env, b1, G1, w1, ev.step s1, by
      cases hm : mr env b1 with
      | stuck => rw [hm] at q1; exact q1
      | exc e b2 => rw [hm] at q1; exact q1
      | ok a2 b2 =>
        rw [hm] at q1
        intro v2 G2 H2 s2 w2 p2
        exact q1 (v1 :: v2) G2 H2 s2 w2 ⟨v1, v2, rfl, ⟨v1, rfl, Rep.mono s2.g _ _ p1⟩, p2.weak s1.dm, fun z => nomatch z⟩⟩⟩
theorem dsl_f (ha : DF X E e ma) (hr : DSl X E es mr) (hs : starEach (e :: es) X.env = (false, eval e X.env) :: starEach es X.env := by rfl) : DSl X E (e :: es) (slF ma mr) :=
  PA.imp (pa_cons ha hr hs) fun σ H Q ⟨pb, pg, H0, env, b, G, w, ev, q⟩ => ⟨pb, pg, H0, env, b, G, w, ev, PstG.bind q fun a1 b1 v1 G1 H1 s1 w1 p1 q1 =>
    ⟨pb, pg, H0, env, b1, G1, w1, ev.step s1, by
      cases ho : ownS a1 with
      | none => rw [ho] at q1; exact q1.elim
      | some so =>
        rw [ho] at q1
        dsimp only at q1
        have key : ∀ (b2 : Bag) (G2 H2 : Hp), Stp (cx X.K X.mg pb pg) G1 H1 G2 H2 → Wd (cx X.K X.mg pb pg) b2 G2 H2 → SlOk (cx X.K X.mg pb pg) H G2 H2 so (some v1) ∧ so.own = true ∧ ∃ p, v1 = .ref p ∧ H1 p ≠ none := by
          intro b2 G2 H2 s2 w2
          have nbg : ∀ {p : Addr}, H p = none → p ≠ pb ∧ p ≠ pg := fun {p} hn => ⟨fun z => by rw [z] at hn; exact w.hbne hn, fun z => by rw [z] at hn; exact w.hgne hn⟩
          cases a1 <;> first | (cases ho; done) | skip
          · cases ho
            obtain ⟨p, vs, rfl, hp, gp, hn, r⟩ := p1
            exact ⟨⟨p, vs, rfl, s2.hn (nbg hn).1 (nbg hn).2 gp hp, s2.fr p (by rw [hp]; exact fun z => nomatch z) gp, hn, r.mono s2.g⟩, rfl, p, rfl, by rw [hp]; exact fun z => nomatch z⟩
          · cases ho
            obtain ⟨p, vs, rfl, hp, l, gp, hn, r⟩ := p1
            exact ⟨⟨p, vs, rfl, s2.hn (nbg hn).1 (nbg hn).2 gp hp, l, s2.fr p (by rw [hp]; exact fun z => nomatch z) gp, hn, r.mono s2.g⟩, rfl, p, rfl, by rw [hp]; exact fun z => nomatch z⟩
          · cases ho
            obtain ⟨p, vs, rfl, hp, l, gp, hn, r⟩ := p1
            exact ⟨⟨p, vs, rfl, s2.hn (nbg hn).1 (nbg hn).2 gp hp, l, s2.fr p (by rw [hp]; exact fun z => nomatch z) gp, hn, r.mono s2.g⟩, rfl, p, rfl, by rw [hp]; exact fun z => nomatch z⟩
        cases hm : mr env b1 with
        | stuck => rw [hm] at q1; exact q1
        | exc e b2 => rw [hm] at q1; exact q1
        | ok a2 b2 =>
          rw [hm] at q1
          intro v2 G2 H2 s2 w2 p2
          obtain ⟨k1, k2, p, rfl, k3⟩ := key b2 G2 H2 s2 w2
          exact q1 (_ :: v2) G2 H2 s2 w2 ⟨_, v2, rfl, k1, p2.weak s1.dm, fun _ j sj ej oj z => k3 (p2.fresh ej oj z)⟩⟩⟩
def setAll (env : Ev) : List Nat → List Sl → Option Ev
  | [], [] => some env
  | i :: is, s :: ss => setAll (env.set i s) is ss
  | _, _ => none
def sPar (is : List Nat) (m : MSl) : MS := fun env b => (m env b).so fun ss b => match setAll env is ss with
  | some env => .nx env b
  | none => .stuck
def gNs : List Nat → TGs
  | [] => gNil
  | i :: is => gCons (gName i) (gNs is)
theorem set_all {c : MC} {H0 H G2 H2 : Hp} : ∀ {is : List Nat} {ss : List Sl} {vs : List V} {env env' : Ev} {σ : L2.St} (h : EvOk c H0 G2 H2 env σ) (hf : ∀ (j : Nat) (sj : Sl) (p : Addr), env[j]? = some sj → sj.own = true → σ[j]? = some (some (.ref p)) → ∀ (m : Nat) (sm : Sl), ss[m]? = some sm → sm.own = true → vs[m]? ≠ some (.ref p))
    (sl : SlsNew c H G2 H2 ss vs) (k : ∀ a, H0 a ≠ none → H a ≠ none) (e : setAll env is ss = some env') {Q : L2.St → Hp → Prop} (q : ∀ σ', EvOk c H0 G2 H2 env' σ' → Q σ' H2), gNs is vs σ H2 Q
  | [], [], vs, env, env', σ, h, hf, sl, k, e, Q, q => by
    cases e
    cases (show vs = [] from sl)
    exact ⟨rfl, q σ h⟩
  | i :: is, s :: ss, vs, env, env', σ, h, hf, sl, k, e, Q, q => by
    obtain ⟨v, ws, rfl, h1, h2, h3⟩ := sl
    refine ⟨v, ws, rfl, ?_⟩
    have hv : EvOk c H0 G2 H2 (env.set i s) (σ.set i (some v)) := by
      cases ho : s.own with
      | false =>
        cases s with
        | va d =>
          obtain ⟨x, e1, r⟩ := h1
          cases e1
          exact h.set_va r i
        | un =>
          have := h.set_va (d := .non) (v := .non) rfl i
          refine ⟨by rw [List.length_set, List.length_set]; exact h.len, fun j s' e => ?_, fun j m sj sm p ne e1 e2 o1 o2 p1 => ?_, h.bb, h.bg⟩
          · rw [List.getElem?_set] at e ⊢
            by_cases hij : i = j
            · subst hij
              rw [if_pos rfl] at e ⊢
              rw [← h.len]
              split at e
              · rename_i hl
                cases e
                rw [if_pos hl]
                exact ⟨_, rfl, trivial⟩
              · cases e
            · rw [if_neg hij] at e ⊢
              exact h.at_ j s' e
          · rw [List.getElem?_set] at e1 e2 p1 ⊢
            by_cases hj : i = j
            · subst hj
              rw [if_pos rfl] at e1
              split at e1
              · cases e1; cases o1
              · cases e1
            · by_cases hk : i = m
              · subst hk
                rw [if_pos rfl] at e2
                split at e2
                · cases e2; cases o2
                · cases e2
              · rw [if_neg hj] at e1 p1
                rw [if_neg hk] at e2 ⊢
                exact h.dis j m sj sm p ne e1 e2 o1 o2 p1
        | ol _ => cases ho
        | oK _ _ => cases ho
        | oT _ _ => cases ho
      | true =>
        have h1' := h1.weak k
        obtain ⟨p, u, e1, _⟩ := own_ref h1' ho
        cases e1
        exact h.set_own h1' (fun j sj ej oj z => hf j sj p ej oj z 0 s rfl ho rfl) i
    refine set_all hv (fun j sj p ej oj ep m sm em om z => ?_) h2 k e q
    rw [List.getElem?_set] at ej ep
    by_cases hij : i = j
    · subst hij
      rw [if_pos rfl] at ej ep
      split at ej
      · cases ej
        split at ep
        · cases ep
          exact h3 oj m sm em om z
        · cases ep
      · cases ej
    · rw [if_neg hij] at ej ep
      exact hf j sj p ej oj ep (m + 1) sm em om z
  | [], _ :: _, _, _, _, _, _, _, _, _, e, _, _ => by cases e
  | _ :: _, [], _, _, _, _, _, _, _, _, e, _, _ => by cases e
theorem sls_len {c : MC} {H1 G H : Hp} : ∀ {ss : List Sl} {vs : List V}, SlsNew c H1 G H ss vs → vs.length = ss.length
  | [], _, h => by cases (show _ = [] from h); rfl
  | _ :: _, _, ⟨v, ws, rfl, _, h2, _⟩ => by rw [List.length_cons, List.length_cons, sls_len h2]
theorem setAll_len : ∀ {is : List Nat} {ss : List Sl} {env env' : Ev}, setAll env is ss = some env' → ss.length = is.length
  | [], [], _, _, _ => rfl
  | i :: is, s :: ss, _, _, e => by rw [List.length_cons, List.length_cons, setAll_len (show setAll _ is ss = some _ from e)]
  | [], _ :: _, _, _, e => by cases e
  | _ :: _, [], _, _, e => by cases e
theorem par_fresh {c : MC} {b : Bag} {H0 G H G1 H1 : Hp} {env : Ev} {σ : L2.St} {ss : List Sl} {vs : List V} (ev : EvOk c H0 G H env σ) (p1 : SlsNew c H G1 H1 ss vs) : ∀ (j : Nat) (sj : Sl) (p : Addr), env[j]? = some sj → sj.own = true → σ[j]? = some (some (.ref p)) → ∀ (m : Nat) (sm : Sl), ss[m]? = some sm → sm.own = true → vs[m]? ≠ some (.ref p) := fun j sj p ej oj ep m sm em om z => by
  obtain ⟨v, ev', sl⟩ := ev.at_ j sj ej
  obtain ⟨p', u, rfl, hp', _⟩ := own_ref sl oj
  rw [ep] at ev'
  cases ev'
  rw [p1.fresh em om z] at hp'
  cases hp'
/-- x, y, .. = e1, e2, ..: through a tuple -/
theorem ds_parT (is : List Nat) {ts : List Expr} {kt k2 : Nat} {tp ep : Pos} (h : DSl X E es mr) (hc : X.calm = true) (hg : PGs X ts (gNs is)) (hn : (assignEach ts X.env).length = is.length := by rfl) (hst : (assignEach ts X.env).findIdx? (·.1) = none := by rfl) (hz : is.length ≤ 1000 := by decide)
    (hs : swapsWithSole [.Tuple ts kt tp] (.Tuple es k2 ep) pos.line X.env = pure false := by rfl) (hw : swappedStores [.Tuple ts kt tp] (.Tuple es k2 ep) X.env = pure none := by rfl)
    (h1 : (assignEach [.Tuple ts kt tp] X.env).map (·.2) = [assign (.Tuple ts kt tp) X.env] := by rfl) : DS X E (.Assign [.Tuple ts kt tp] (.Tuple es k2 ep) pos) (sPar is mr) :=
  PS.imp (ps_asg (pe_tup h) (pg_tup hc hg hn hst) hs hw h1) fun D σ H ⟨pb, pg, G0, H0, env, b, G, st, w, ev, q⟩ => ⟨pb, pg, H0, env, b, G, w, ev, PstS.bind st q fun a1 b1 v1 G1 H1 s1 w1 p1 q1 => by
    cases hsa : setAll env is a1 with
    | none => rw [hsa] at q1; exact q1.elim
    | some env' =>
      rw [hsa] at q1
      have hl : v1.length = is.length := by rw [sls_len p1, setAll_len hsa]
      refine ⟨Nat.le_trans (by omega) (by decide : 1000 ≤ sizeLine), fun p hp => ?_⟩
      obtain ⟨s2, w2, g2⟩ := Stp.newO (o := .tup v1) w1 hp
      have sl2 : SlsNew (cx X.K X.mg pb pg) H G1 (upd H1 p (.tup v1)) a1 v1 := by
        have gen : ∀ {ss : List Sl} {vs : List V}, SlsNew (cx X.K X.mg pb pg) H G1 H1 ss vs → SlsNew (cx X.K X.mg pb pg) H G1 (upd H1 p (.tup v1)) ss vs := by
          intro ss
          induction ss with
          | nil => intro vs h; exact h
          | cons s ss ih =>
            intro vs h
            obtain ⟨v, ws, rfl, h1, h2, h3⟩ := h
            refine ⟨v, ws, rfl, ?_, ih h2, h3⟩
            have ne : ∀ {q : Addr} {u : HO}, H1 q = some u → upd H1 p (.tup v1) q = some u := fun {q u} hq => by rw [upd_ne (ne_of_none hq hp)]; exact hq
            cases s with
            | un => trivial
            | va d => exact h1
            | ol ds => obtain ⟨q, vs, e, hq, gq, h0, r⟩ := h1; exact ⟨q, vs, e, ne hq, gq, h0, r⟩
            | oK ks ds => obtain ⟨q, vs, e, hq, l, gq, h0, r⟩ := h1; exact ⟨q, vs, e, ne hq, l, gq, h0, r⟩
            | oT ks ds => obtain ⟨q, vs, e, hq, l, gq, h0, r⟩ := h1; exact ⟨q, vs, e, ne hq, l, gq, h0, r⟩
        exact gen p1
      exact ⟨p, v1, rfl, .inl (.inl upd_same), hl, set_all ((ev.step s1).step s2) (par_fresh (b := b) ev p1) sl2 st.dm hsa fun σ' ev' => q1 σ' G1 _ ((st.trans s1).trans s2) w2 ev'⟩⟩
theorem ds_par2 {i j : Nat} {x y : Str} {a a2 : Expr} {px py pt : Pos} {kt k2 pt2} (hc : X.calm = true) (hN : X.N.Nodup) (h : DSl X E [a, a2] mr) (hi : X.N[i]? = some x := by rfl) (hj : X.N[j]? = some y := by rfl) (hij : i ≠ j := by decide)
    (hx : X.env.scope.names.lookup x = some .local := by rfl) (hy : X.env.scope.names.lookup y = some .local := by rfl)
    (hw : swappedStores [.Tuple [.Name x px, .Name y py] kt pt] (.Tuple [a, a2] k2 pt2) X.env = pure (some [x, y]) := by rfl)
    (hs : swapsWithSole [.Tuple [.Name x px, .Name y py] kt pt] (.Tuple [a, a2] k2 pt2) pos.line X.env = pure false := by rfl) :
    DS X E (.Assign [.Tuple [.Name x px, .Name y py] kt pt] (.Tuple [a, a2] k2 pt2) pos) (sPar [i, j] mr) :=
  PS.imp (ps_par hc hN hi hj hij hx hy h hw hs) fun D σ H ⟨pb, pg, G0, H0, env, b, G, st, w, ev, q⟩ => ⟨pb, pg, H0, env, b, G, w, ev, PstS.bind st q fun a1 b1 v1 G1 H1 s1 w1 p1 q1 => by
    cases hsa : setAll env [i, j] a1 with
    | none => rw [hsa] at q1; exact q1.elim
    | some env' =>
      rw [hsa] at q1
      have z := set_all (Q := fun σ' H' => D.nx σ' H') (ev.step s1) (par_fresh (b := b) ev p1) p1 st.dm hsa fun σ' ev' => q1 σ' G1 _ (st.trans s1) w1 ev'
      obtain ⟨u, r, rfl, u2, r2, rfl, rfl, z⟩ := z
      exact ⟨u, u2, rfl, z⟩⟩
theorem ds_par3 {i j l : Nat} {x y z : Str} {a a2 a3 : Expr} {px py pz pt : Pos} {kt k2 pt2} (hc : X.calm = true) (hN : X.N.Nodup) (h : DSl X E [a, a2, a3] mr) (hi : X.N[i]? = some x := by rfl) (hj : X.N[j]? = some y := by rfl) (hl : X.N[l]? = some z := by rfl) (hij : i ≠ j := by decide) (hil : i ≠ l := by decide) (hjl : j ≠ l := by decide)
    (hx : X.env.scope.names.lookup x = some .local := by rfl) (hy : X.env.scope.names.lookup y = some .local := by rfl) (hz : X.env.scope.names.lookup z = some .local := by rfl)
    (hw : swappedStores [.Tuple [.Name x px, .Name y py, .Name z pz] kt pt] (.Tuple [a, a2, a3] k2 pt2) X.env = pure (some [x, y, z]) := by rfl)
    (hs : swapsWithSole [.Tuple [.Name x px, .Name y py, .Name z pz] kt pt] (.Tuple [a, a2, a3] k2 pt2) pos.line X.env = pure false := by rfl) :
    DS X E (.Assign [.Tuple [.Name x px, .Name y py, .Name z pz] kt pt] (.Tuple [a, a2, a3] k2 pt2) pos) (sPar [i, j, l] mr) :=
  PS.imp (ps_par3 hc hN hi hj hl hij hil hjl hx hy hz h hw hs) fun D σ H ⟨pb, pg, G0, H0, env, b, G, st, w, ev, q⟩ => ⟨pb, pg, H0, env, b, G, w, ev, PstS.bind st q fun a1 b1 v1 G1 H1 s1 w1 p1 q1 => by
    cases hsa : setAll env [i, j, l] a1 with
    | none => rw [hsa] at q1; exact q1.elim
    | some env' =>
      rw [hsa] at q1
      have z := set_all (Q := fun σ' H' => D.nx σ' H') (ev.step s1) (par_fresh (b := b) ev p1) p1 st.dm hsa fun σ' ev' => q1 σ' G1 _ (st.trans s1) w1 ev'
      obtain ⟨u, r, rfl, u2, r2, rfl, u3, r3, rfl, rfl, z⟩ := z
      exact ⟨u, u2, u3, rfl, z⟩⟩
end
end Mr

set_option Elab.async false
set_option linter.all false
set_option maxRecDepth 100000
namespace PySem
open Builtin.Slice L2
section
variable {prog : Program} {w : World} {A : Around} {E : Value → Shared → Prop} {s : Shared}
theorem adjust_rev (n : Nat) : sliceAdjust none none (-1) (n : Int) = ((n : Int) - 1, -1) := by
  unfold sliceAdjust
  simp
theorem places_rev (n : Nat) : slicePlaces ((n : Int) - 1) (-1) (-1) = n := by
  unfold slicePlaces
  have h1 : ¬ ((-1 : Int) > 0) := by omega
  have h2 : (-(-1) : Int) = 1 := rfl
  simp only [h1, if_false, h2, Int.ediv_one]
  split <;> omega
theorem sliceApplied_rev {sl : Addr} {vs : Value} {n : Nat} {Q : Int × Int × Nat → Shared → Prop} (hs : s.heap.IsSliceOf sl .none .none vs) (ps : IsPart vs (some (-1)))
    (h : Q ((n : Int) - 1, -1, n) s) : wpAny (model prog w) A (sliceApplied (.ref sl) (pure (n : Int))) Q E s := by
  obtain ⟨os, hos, hcs, hds⟩ := id hs
  unfold sliceApplied sliceFields
  refine wpAny_bind (wpAny_bind (wpAny_field hos hds (x := .none) rfl (wpAny_bind (wpAny_field hos hds (x := .none) rfl (wpAny_bind (wpAny_field hos hds (x := vs) rfl (wpAny_pure ?_)))))))
  refine wpAny_bind (HT.slicePart_ ps ?_)
  show wpAny _ _ (if ((-1 : Int) == 0) = true then _ else _) _ _ s
  rw [if_neg (by decide)]
  refine wpAny_bind (HT.slicePart_ .none (wpAny_bind (HT.slicePart_ .none (wpAny_bind (wpAny_pure ?_)))))
  show wpAny _ _ (match sliceAdjust none none (-1) (n : Int) with | (lo, hi) => pure (lo, (-1 : Int), slicePlaces lo hi (-1))) _ _ s
  rw [adjust_rev n]
  show wpAny _ _ (pure ((n : Int) - 1, (-1 : Int), slicePlaces ((n : Int) - 1) (-1) (-1))) _ _ s
  rw [places_rev]
  exact wpAny_pure h
theorem pick_rev (xs : Array Value) : ((List.range xs.size).filterMap fun (m : Nat) => xs[(((xs.size : Int) - 1) + (m : Int) * (-1)).toNat]?).toArray = xs.toList.reverse.toArray := by
  congr 1
  have gen : ∀ (k : Nat) (h : k ≤ xs.size), ((List.range k).filterMap fun (m : Nat) => xs[(((xs.size : Int) - 1) + (m : Int) * (-1)).toNat]?) = xs.toList.reverse.take k := by
    intro k
    induction k with
    | zero => intro _; simp
    | succ k ih =>
      intro h
      rw [List.range_succ, List.filterMap_append, ih (by omega)]
      have e1 : (((xs.size : Int) - 1) + (k : Int) * (-1)).toNat = xs.size - 1 - k := by omega
      have hk : k < xs.toList.reverse.length := by rw [List.length_reverse, Array.length_toList]; omega
      rw [List.take_succ_eq_append_getElem hk]
      congr 1
      simp only [List.filterMap_cons, List.filterMap_nil, e1]
      have h2 : xs.size - 1 - k < xs.size := by omega
      rw [Array.getElem?_eq_getElem h2]
      simp only [List.getElem_reverse, Array.length_toList, Array.getElem_toList]
  have := gen xs.size (Nat.le_refl _)
  rw [this]
  apply List.take_of_length_le
  rw [List.length_reverse, Array.length_toList]
  exact Nat.le_refl _
theorem getItem_tuple_rev {t sl : Addr} {items : Array Value} {vs : Value} {Q : Value → Shared → Prop} (ht : PyProof.Rows.IsTup s.heap t items) (hs : s.heap.IsSliceOf sl .none .none vs) (ps : IsPart vs (some (-1)))
    (h : Q (.ref s.heap.objs.size) { s with heap := s.heap.push { cls := .type "tuple", data := .seq items.toList.reverse.toArray } })
    (hsz : items.size ≤ sizeLine) : wpAny (model prog w) A (getItem (.ref t) (.ref sl)) Q E s := by
  have htake : sizeOk (.seq items.toList.reverse.toArray) := by
    show items.toList.reverse.toArray.size ≤ sizeLine
    rw [List.size_toArray, List.length_reverse, Array.length_toList]
    exact hsz
  obtain ⟨os, hos, hcs, hds⟩ := id hs
  have hTs : s.TypeIs (.ref sl) "slice" := ⟨os, hos, hcs⟩
  unfold getItem
  try with_reducible refine wpAny_holding ?_
  first | refine wpAny_bind (wpAny_pure ?_) | skip
  refine wpAny_bind (wpAny_sequenceKey ht.typeIs (by decide) ?_)
  refine wpAny_bind (wpAny_callSpecial?_slot (name := Str.ofString "__getitem__") ht.typeIs PyProof.Rows.slot_tuple_getitem
    (wpAny_call_entry PyProof.Rows.slot_tuple_getitem ht.typeIs PyProof.Rows.entry_tuple_getitem ?_ (PyProof.Rows.args_tuple_getitem _ _)))
  show wpAny _ _ (Builtin.Tuple.tupleItemsOf (.ref t) >>= _) _ _ s
  refine wpAny_bind (PyProof.Rows.tupleItemsOf_ ht ?_)
  refine wpAny_bind (wpAny_typeOf hTs ?_)
  rw [if_pos (by decide)]
  refine wpAny_bind (sliceApplied_rev hs ps ?_)
  have hno : ¬ ((((items.size : Int) - 1) == 0 && (-1 : Int) == 1 && items.size == items.size) = true) := by
    intro q
    rw [Bool.and_eq_true, Bool.and_eq_true] at q
    have := q.1.2
    revert this
    decide
  show wpAny _ _ (if (((items.size : Int) - 1) == 0 && (-1 : Int) == 1 && items.size == items.size) = true then _ else _) _ _ s
  rw [if_neg hno, pick_rev]
  first
    | exact wpAny_bind (m := Builtin.Tuple.tupleExact _) (wpAny_newObj_type (wpAny_pure ⟨_, rfl, wpAny_pure h⟩) htake)
    | exact wpAny_bind (m := Builtin.Tuple.tupleExact _) (wpAny_newObj_type (wpAny_bind (wpAny_pure (wpAny_pure ⟨_, rfl, wpAny_pure h⟩))) htake)
    | exact wpAny_bind (wpAny_bind (m := Builtin.Tuple.tupleExact _) (wpAny_newObj_type (wpAny_pure (wpAny_pure ⟨_, rfl, wpAny_pure h⟩)) htake))
    | exact wpAny_bind (wpAny_bind (m := Builtin.Tuple.tupleExact _) (wpAny_newObj_type (wpAny_pure ⟨_, rfl, wpAny_pure h⟩) htake))
end
end PySem
namespace Mr
open PySem PySem.Spec L2
section
variable {X : Cx} {E : XK} {e a b c : Expr} {es : List Expr} {ma mb mc : ME} {mr : MA} {mt mu : MT} {pos : Pos}
theorem PE.or {t t' : TE} (h : PE X e t) (h' : PE X e t') : PE X e (fun σ H Q => t σ H Q ∨ t' σ H Q) := ⟨fun pins s σ H Q I hq => by
  rcases hq with hq | hq
  · exact h.run pins s σ H Q I hq
  · exact h'.run pins s σ H Q I hq⟩
def tRevT (K : PySem.W.Frag) (te : TE) : TE := fun σ H Q => te σ H fun x H1 => ∃ a xs, x = .ref a ∧ SqT K H1 a xs ∧ ∀ p, H1 p = none → Q (.ref p) (upd H1 p (.tup xs.reverse))
theorem pe_revT {te : TE} {k : Nat} {p1 p2 p3 : Pos} (he : PE X e te) : PE X (.Subscript e (.Slice none none (some (.UnaryOp .USub (.Constant (.int 1) k p1) p2)) p3) pos) (tRevT X.K te) := by
  refine ⟨fun pins s σ H Q I h => ?_⟩
  refine PyProof.Rows.Subscript_ (thn (he.run pins s σ H _ I h) fun v s1 ⟨x, H1, I1, r1, q1⟩ => ?_)
  obtain ⟨a, xs, ex, hx, q⟩ := q1
  subst ex
  cases r1
  have hst : PO X (some (.UnaryOp .USub (.Constant (.int 1) k p1) p2)) (tPart (tUn (rU fun i => .int (-i)) (tC (.int 1)))) := po_some (pe_un un_neg pe_int)
  refine wpAny_Slice ?_
  rw [evalPart_none]
  refine wpAny_pure ?_
  refine wpAny_pure ?_
  refine thn (hst.run pins s1 σ H1 (fun o H4 => o = some (-1) ∧ H4 = H1) I1 ⟨1, rfl, -1, rfl, rfl, rfl⟩) fun vs s4 ⟨o, H4, I4, ps, eo, e4⟩ => ?_
  subst eo e4
  have I5 : Inv X pins σ H4 { s4 with heap := s4.heap.push { cls := .type "slice", data := .fields #[.none, .none, vs] } } := I4.kept (t' := s4.toks) fun b ob q => Heap.get?_push_of_some _ q
  obtain ⟨its, r, ht, hz⟩ := I5.tuple hx
  have hlen := r.length
  show wpAny (model X.prog X.w) X.A (PyProof.Rows.subscriptTail e (.Slice none none (some (.UnaryOp .USub (.Constant (.int 1) k p1) p2)) p3) (.ref a) (.ref s4.heap.objs.size)) (EP X pins σ Q) X.xe { s4 with heap := s4.heap.push { cls := .type "slice", data := .fields #[.none, .none, vs] } }
  refine PyProof.Rows.tail_any (ops := [.ref a, .ref s4.heap.objs.size]) ht.typeIs PyProof.Rows.slot_tuple_getitem.lookup ?_ (by with_unfolding_all rfl)
  refine getItem_tuple_rev ht (Heap.IsSliceOf.new _ .none .none vs) ps ?_ (by rw [List.size_toArray]; omega)
  refine ⟨.ref _, _, I5.laid (t' := s4.toks) (o := .tup xs.reverse) (fun b ob q => Heap.get?_push_of_some _ q) (Nat.le_refl _) ?_, rfl, q _ (I5.hok.fresh (Nat.le_refl _))⟩
  exact ⟨by rw [List.length_reverse]; exact hz, _, r.reverse, PyProof.Rows.IsTup.new _ _⟩
def revG : D → Option D
  | .lst ds => some (.lst ds.reverse)
  | .tup ds => some (.tup ds.reverse)
  | _ => none
theorem de_rev {k : Nat} {p1 p2 p3 : Pos} (he : DV X E e ma) : DE X E (.Subscript e (.Slice none none (some (.UnaryOp .USub (.Constant (.int 1) k p1) p2)) p3) pos) (m1 revG ma) :=
  PE.imp (PE.or (pe_revL he) (pe_revT he)) fun σ H Q ⟨pb, pg, H0, env, b, G, w, ev, q⟩ => by
    unfold m1 at q
    cases hm : ma env b with
    | stuck => rw [hm] at q; exact q.elim
    | exc e b1 => rw [hm] at q; exact .inl ⟨pb, pg, H0, env, b, G, w, ev, by rw [hm]; exact q⟩
    | ok d b1 =>
      rw [hm] at q
      cases d <;> first | exact q.elim | skip
      · refine .inr ⟨pb, pg, H0, env, b, G, w, ev, ?_⟩
        rw [hm]
        intro v G1 H1 s1 w1 p1
        obtain ⟨p, vs, rfl, hp, r⟩ := p1
        refine ⟨p, vs, rfl, .inl (.inl (w1.tup hp)), fun p2 hp2 => ?_⟩
        obtain ⟨s2, w2⟩ := Stp.new (o := .tup vs.reverse) w1 hp2
        exact q _ _ _ (s1.trans s2) w2 ⟨p2, _, rfl, upd_same, r.reverse.mono s2.g⟩
      · refine .inl ⟨pb, pg, H0, env, b, G, w, ev, ?_⟩
        rw [hm]
        intro v G1 H1 s1 w1 p1
        obtain ⟨p, vs, rfl, hp, r⟩ := p1
        refine ⟨p, vs, rfl, hp.l, fun p2 hp2 => ?_⟩
        obtain ⟨s2, w2⟩ := Stp.new (o := .lst vs.reverse) w1 hp2
        exact q _ _ _ (s1.trans s2) w2 ⟨p2, _, rfl, upd_same, r.reverse.mono s2.g⟩
end
end Mr

set_option Elab.async false
set_option linter.all false
set_option maxRecDepth 100000
namespace Mr
open PySem PySem.Spec L2
section
variable {X : Cx} {E : XK} {e a b c kx vx tg it : Expr} {es : List Expr} {ma mb mc mk me : ME} {mi : MI} {g : MG} {mr : MA} {mt mu : MT} {pos : Pos}

/-! ### sorted -/
def pairsD : List D → Option (List (Int × Int))
  | [] => some []
  | .tup [.int i, .int j] :: ds => (pairsD ds).map ((i, j) :: ·)
  | _ :: _ => none
def leP (x y : Int × Int) : Bool := decide (x.1 < y.1) || (decide (x.1 = y.1) && decide (x.2 ≤ y.2))
def encP (x : Int × Int) : D := .tup [.int x.1, .int x.2]
def sortI (ns : List Int) : List Int := ns.mergeSort (fun x y => decide (x ≤ y))
def sortP (ns : List (Int × Int)) : List (Int × Int) := ns.mergeSort leP
/-- sorted(xs), a list of ints -/
def sortedIG : List D → Option D
  | [.lst ds] => (intsD ds).map fun ns => .lst ((sortI ns).map D.int)
  | _ => none
/-- sorted(xs), a list of pairs of ints -/
def sortedPG : List D → Option D
  | [.lst ds] => (pairsD ds).map fun ns => .lst ((sortP ns).map encP)
  | _ => none
theorem sortI_perm (ns : List Int) : (sortI ns).Perm ns := List.mergeSort_perm _ _
theorem sortI_sorted (ns : List Int) : (sortI ns).Pairwise (· ≤ ·) := by
  have := List.pairwise_mergeSort (le := fun x y : Int => decide (x ≤ y)) (fun a b c h1 h2 => by simp at *; omega) (fun a b => by simp; omega) ns
  exact this.imp fun h => by simpa using h
theorem leP_trans (a b c : Int × Int) (h1 : leP a b = true) (h2 : leP b c = true) : leP a c = true := by
  simp only [leP, Bool.or_eq_true, Bool.and_eq_true, decide_eq_true_eq] at *
  omega
theorem leP_total (a b : Int × Int) : (leP a b || leP b a) = true := by
  simp only [leP, Bool.or_eq_true, Bool.and_eq_true, decide_eq_true_eq]
  omega
theorem leP_anti (a b : Int × Int) (h1 : leP a b = true) (h2 : leP b a = true) : a = b := by
  simp only [leP, Bool.or_eq_true, Bool.and_eq_true, decide_eq_true_eq] at *
  exact Prod.ext (by omega) (by omega)
theorem sortP_perm (ns : List (Int × Int)) : (sortP ns).Perm ns := List.mergeSort_perm _ _
theorem sortP_sorted (ns : List (Int × Int)) : (sortP ns).Pairwise (fun x y => leP x y = true) := List.pairwise_mergeSort leP_trans leP_total ns
theorem sortP_uniq {xs ys : List (Int × Int)} (p : xs.Perm ys) (h : xs.Pairwise (fun x y => leP x y = true)) : xs = sortP ys :=
  (p.trans (sortP_perm ys).symm).eq_of_pairwise (fun x y _ _ h1 h2 => leP_anti x y h1 h2) h (sortP_sorted ys)
theorem call_sortedIG : CallF X (.builtin "sorted") sortedIG := by
  intro pins s σ H xs us Q I r h
  obtain ⟨pb, pg, b, G, dxs, d, w, vx, e, q⟩ := h
  unfold sortedIG at e
  split at e
  · rename_i ds
    obtain ⟨v, rfl, p, vs, rfl, hp, rr⟩ := vws1 vx
    simp only [Option.map_eq_some_iff] at e
    obtain ⟨ns, hb, rfl⟩ := e
    cases intsD_rep rr hb
    refine cr_sortedI pins s σ H _ us Q I r ⟨p, ns, rfl, hp.l, fun ns' l hperm hs hl => ?_⟩
    have : ns' = sortI ns := PySem.W.ksm_same (hperm.trans (sortI_perm ns).symm) hs (sortI_sorted ns)
    subst this
    exact pF_new w (Reps.of_ints _) hl q
  · cases e
theorem pairsD_rep {c : MC} {G : Hp} : ∀ {ds : List D} {vs : List V} {ps : List (Int × Int)}, Reps c G ds vs → pairsD ds = some ps → ∀ (k : V → Int × Int), (∀ t i j, G t = some (.tup [.int i, .int j]) → k (.ref t) = (i, j)) → vs.map k = ps ∧ ∀ v ∈ vs, ∃ t, v = .ref t ∧ G t = some (.tup [.int (k v).1, .int (k v).2])
  | [], vs, ps, r, h, k, hk => by cases (show vs = [] from r); cases h; exact ⟨rfl, fun v hv => by cases hv⟩
  | d :: ds, vs, ps, r, h, k, hk => by
    obtain ⟨v, ws, rfl, r1, r2⟩ := r
    unfold pairsD at h
    split at h
    · rename_i heq; cases heq
    · rename_i i j ds' heq
      cases heq
      simp only [Option.map_eq_some_iff] at h
      obtain ⟨ps', h, rfl⟩ := h
      obtain ⟨t, us, rfl, ht, v1, w1, rfl, rv1, v2, w2, rfl, rv2, rn⟩ := r1
      cases (show w2 = [] from rn)
      cases (show v1 = .int i from rv1)
      cases (show v2 = .int j from rv2)
      have e := hk t i j ht
      obtain ⟨h1, h2⟩ := pairsD_rep r2 h k hk
      refine ⟨by rw [List.map_cons, e, h1], fun v hv => ?_⟩
      rcases List.mem_cons.mp hv with rfl | hv
      · exact ⟨t, rfl, by rw [e]; exact ht⟩
      · exact h2 v hv
    · cases h
theorem call_sortedPG : CallF X (.builtin "sorted") sortedPG := by
  intro pins s σ H xs us Q I r h
  obtain ⟨pb, pg, b, G, dxs, d, w, vx, e, q⟩ := h
  unfold sortedPG at e
  split at e
  · rename_i ds
    obtain ⟨v, rfl, p, vs, rfl, hp, rr⟩ := vws1 vx
    simp only [Option.map_eq_some_iff] at e
    obtain ⟨ps, hb, rfl⟩ := e
    obtain ⟨k, hk⟩ : ∃ k : V → Int × Int, ∀ t i j, G t = some (.tup [.int i, .int j]) → k (.ref t) = (i, j) :=
      ⟨fun v => match v with
        | .ref t => match G t with
          | some (.tup [.int i, .int j]) => (i, j)
          | _ => (0, 0)
        | _ => (0, 0), fun t i j e => by simp [e]⟩
    obtain ⟨h1, h2⟩ := pairsD_rep rr hb k hk
    refine cr_sortedPO pins s σ H _ us Q I r ⟨p, vs, k, rfl, hp.l, fun x hx => ?_, fun ys l hs hst hl => ?_⟩
    · obtain ⟨t, rfl, ht⟩ := h2 x hx
      exact ⟨t, rfl, w.tup ht⟩
    · have hys : ys.map k = sortP ps := by
        refine sortP_uniq (by rw [← h1]; exact hst.perm.map k) ?_
        rw [List.pairwise_map]
        refine hs.imp fun {x y} hxy => ?_
        have hxy : SrtO.lexB (k y) (k x) = false := hxy
        rw [← Bool.not_eq_true, SrtO.lexB_iff] at hxy
        simp only [leP, Bool.or_eq_true, Bool.and_eq_true, decide_eq_true_eq]
        omega
      have rys : ∀ zs : List V, (∀ z ∈ zs, z ∈ vs) → Reps (cx X.K X.mg pb pg) G ((zs.map k).map encP) zs := by
        intro zs
        induction zs with
        | nil => intro _; exact .nil
        | cons z zs ih =>
          intro hz
          obtain ⟨t, rfl, ht⟩ := h2 z (hz z (by simp))
          refine .cons ⟨t, _, rfl, ht, .cons rfl (.one rfl)⟩ (ih fun y hy => hz y (by simp [hy]))
      have rfin := rys ys fun z hz => hst.perm.mem_iff.mp hz
      rw [hys] at rfin
      exact pF_new w rfin hl q
  · cases e

/-! ### ranges as values -/
def rgD (a b : Int) : List D := (List.range (b - a).toNat).map fun i => .int (a + (i : Nat))
theorem rg_rep {c : MC} {G : Hp} (a b : Int) : Reps c G (rgD a b) (rgV a b) := by
  unfold rgD rgV
  induction List.range (b - a).toNat with
  | nil => exact .nil
  | cons n ns ih => exact .cons rfl ih
def mRgL (m : ME) : ME := fun env b => (m env b).bind fun d b => match d with
  | .int n => if -1000000 ≤ n ∧ n ≤ 1000000 then .ok (.lst (rgD 0 n)) b else .stuck
  | _ => .stuck
def mRgT (m : ME) : ME := fun env b => (m env b).bind fun d b => match d with
  | .int n => if -1000000 ≤ n ∧ n ≤ 1000000 then .ok (.tup (rgD 0 n)) b else .stuck
  | _ => .stuck
def mRgL2 (m1 m2 : ME) : ME := fun env b => (m1 env b).bind fun d b => (m2 env b).bind fun e b => match d, e with
  | .int l, .int n => if -1000000 ≤ l ∧ l ≤ 1000000 ∧ -1000000 ≤ n ∧ n ≤ 1000000 then .ok (.lst (rgD l n)) b else .stuck
  | _, _ => .stuck
theorem RgOk_of {l n : Int} (h : -1000000 ≤ l ∧ l ≤ 1000000 ∧ -1000000 ≤ n ∧ n ≤ 1000000) : RgOk l n := ⟨by omega, by omega, by omega, by omega, by omega⟩

theorem df_rgL {p p2 : Pos} {pos2 : Pos} (hc : X.calm = true) (hg : Gl X "list") (hm : X.mg "list" = none) (hg2 : Gl X "range") (hm2 : X.mg "range" = none) (h : DE X E e ma) (n1 : starEach [e] X.env = (false, eval e X.env) :: starEach [] X.env := by rfl)
    (n2 : starEach [.Call (.Name "range" p2) [e] [] pos2] X.env = (false, eval (.Call (.Name "range" p2) [e] [] pos2) X.env) :: starEach [] X.env := by rfl) : DF X E (.Call (.Name "list" p) [.Call (.Name "range" p2) [e] [] pos2] [] pos) (mRgL ma) :=
  PE.imp (pe_listRg hc hg hm (prg_1 hg2 hm2 h n1) n2) fun σ H Q ⟨pb, pg, H0, env, b, G, w, ev, q⟩ => ⟨pb, pg, H0, env, b, G, w, ev, PstG.bind q fun a1 b1 v1 G1 H1 s1 w1 p1 q1 => by
    cases a1 <;> first | exact q1.elim | skip
    rename_i n
    dsimp only at q1
    split at q1
    · rename_i hz
      cases (show v1 = .int n from p1)
      refine ⟨n, rfl, RgOk_of ⟨by omega, by omega, hz.1, hz.2⟩, fun p hp => ?_⟩
      exact pF_new w1 (rg_rep 0 n) hp fun v G' H' s' w' f' => q1 v G' H' s' w' (pF.weak s1.dm f')
    · exact q1.elim⟩
theorem de_rgT {p p2 : Pos} {pos2 : Pos} (hc : X.calm = true) (hg : Gl X "tuple") (hm : X.mg "tuple" = none) (hg2 : Gl X "range") (hm2 : X.mg "range" = none) (h : DE X E e ma) (n1 : starEach [e] X.env = (false, eval e X.env) :: starEach [] X.env := by rfl)
    (n2 : starEach [.Call (.Name "range" p2) [e] [] pos2] X.env = (false, eval (.Call (.Name "range" p2) [e] [] pos2) X.env) :: starEach [] X.env := by rfl) : DE X E (.Call (.Name "tuple" p) [.Call (.Name "range" p2) [e] [] pos2] [] pos) (mRgT ma) :=
  PE.imp (pe_tupRg hc hg hm (prg_1 hg2 hm2 h n1) n2) fun σ H Q ⟨pb, pg, H0, env, b, G, w, ev, q⟩ => ⟨pb, pg, H0, env, b, G, w, ev, PstG.bind q fun a1 b1 v1 G1 H1 s1 w1 p1 q1 => by
    cases a1 <;> first | exact q1.elim | skip
    rename_i n
    dsimp only at q1
    split at q1
    · rename_i hz
      cases (show v1 = .int n from p1)
      refine ⟨n, rfl, RgOk_of ⟨by omega, by omega, hz.1, hz.2⟩, fun p hp => ?_⟩
      obtain ⟨s2, w2⟩ := Stp.new (o := .tup (rgV 0 n)) w1 hp
      exact q1 _ _ _ s2 w2 ⟨p, _, rfl, upd_same, (rg_rep 0 n).mono s2.g⟩
    · exact q1.elim⟩
/-- {k: v}, one pair -/
def mDict1 (mk mv : ME) : ME := fun env b => (mk env b).bind fun k b => (mv env b).bind fun v b => R.opt ((keyD k).map fun k => .dK [k] [v]) b
theorem df_dict1 (hk : DE X E a mb) (hv : DE X E c mc) : DF X E (.Dict [some a] [c] pos) (mDict1 mb mc) :=
  PE.imp (pe_disp (pps_cons hk hv pps_nil) rfl rfl (fun z => nomatch z) (Nat.le_of_ble_eq_true rfl)) fun σ H Q ⟨pb, pg, H0, env, b, G, w, ev, q⟩ p hp => by
    obtain ⟨s0, w0, g0⟩ := Stp.newO (o := .dK []) w hp
    have nb : p ≠ pb := fun z => by rw [z] at hp; exact w.hbne hp
    have ng : p ≠ pg := fun z => by rw [z] at hp; exact w.hgne hp
    refine ⟨pb, pg, H0, env, b, G, w0, ev.step s0, ?_⟩
    unfold mDict1 at q
    cases hm : mb env b with
    | stuck => rw [hm] at q; exact q
    | exc e b1 => rw [hm] at q; exact PstX.of s0 q
    | ok k b1 =>
      rw [hm] at q
      simp only [R.bind_ok] at q
      intro v1 G1 H1 s1 w1 p1
      refine ⟨pb, pg, H0, env, b1, G1, w1, (ev.step s0).step s1, ?_⟩
      cases hm2 : mc env b1 with
      | stuck => rw [hm2] at q; exact q
      | exc e b2 => rw [hm2] at q; exact PstX.of (s0.trans s1) q
      | ok d b2 =>
        rw [hm2] at q
        simp only [R.bind_ok] at q
        intro v2 G2 H2 s2 w2 p2
        have hp2 : H2 p = some (.dK []) := s2.hn nb ng (s1.fr p (by rw [upd_same]; exact fun z => nomatch z) g0) (s1.hn nb ng g0 upd_same)
        have gp2 : G2 p = none := (s1.trans s2).fr p (by rw [upd_same]; exact fun z => nomatch z) g0
        cases hkk : keyD k with
        | none => rw [hkk] at q; exact q.elim
        | some kk =>
          rw [hkk] at q
          have e1 := rep_key p1 hkk
          subst e1
          exact ⟨hp2, [(kk, v2)], rfl, Nat.le_of_ble_eq_true rfl, q _ G2 _ ((s0.trans (s1.trans s2)).put hp) (w2.put gp2 nb ng) ⟨p, [v2], rfl, upd_same, rfl, gp2, hp, .one p2⟩⟩

/-! ### dict comprehensions -/
def dcL (g : MG) (t : MT) (kl el : ME) (env : Ev) : List D → List Key → List D → Bag → R (List Key × List D)
  | [], ks, vs, b => .ok (ks, vs) b
  | d :: ds, ks, vs, b => match g d env with
    | none => .stuck
    | some env1 => (t env1 b).sq fun k b => if k = true then (kl env1 b).sq fun y b => (el env1 b).sq fun z b => match keyD y with
      | some k => dcL g t kl el env ds (putKs ks k) (putDs ks vs k z) b
      | none => .stuck
      else dcL g t kl el env ds ks vs b
def mDc (mi : MI) (g : MG) (t : MT) (kl el : ME) (vs : List Nat) : ME := fun env b => (mi env b).bind fun ds b => if ds.length ≤ 100000 then (dcL g t kl el (wipeE env vs) ds [] [] b).bind fun r b => .ok (.dK r.1 r.2) b else .stuck
theorem putKs_len (ks : List Key) (k : Key) : (putKs ks k).length ≤ ks.length + 1 := by
  unfold putKs
  split
  · omega
  · rw [List.length_append]; simp
theorem readDc {K : PySem.W.Frag} {mg : Str → Option Value} {σ : L2.St} {H : Hp} {Q : VK} {vs : List Nat} (h : tF K mg E (mDc mi g mt mk me vs) σ H Q) :
    tDc (tIC K mg E mi) (tGc K mg vs g) (tT K mg E0 mt) (tM K mg E0 mk) (tM K mg E0 me) vs σ H Q := by
  obtain ⟨pb, pg, H0, env, b, G, w, ev, q⟩ := h
  refine ⟨pb, pg, H0, env, b, G, w, ev, ?_⟩
  unfold mDc at q
  cases hm : mi env b with
  | stuck => rw [hm] at q; exact q.elim
  | exc e b1 => rw [hm] at q; exact q
  | ok ds b1 =>
    rw [hm] at q
    simp only [R.bind_ok] at q
    intro J G1 H1 s1 w1 wk Dl hD
    split at q
    · rename_i hz
      have nb : Dl ≠ pb := fun z => by rw [z] at hD; exact w1.hbne hD
      have ng : Dl ≠ pg := fun z => by rw [z] at hD; exact w1.hgne hD
      refine ⟨fun i m H2 => ∃ b2 G2 ks acc vs2, Stp (cx K mg pb pg) G1 H1 G2 H2 ∧ Wd (cx K mg pb pg) b2 G2 H2 ∧ H2 Dl = some (.dK (ks.zip vs2)) ∧ ks.length = vs2.length ∧ G2 Dl = none ∧ Reps (cx K mg pb pg) G2 acc vs2 ∧ ks.length ≤ i ∧ m = ds.length - i ∧ i ≤ ds.length ∧
        dcL g mt mk me (wipeE env vs) ds [] [] b1 = dcL g mt mk me (wipeE env vs) (ds.drop i) ks acc b2, ⟨ds.length, b1, G1, [], [], [], ?_⟩, ?_⟩
      · obtain ⟨sD, wD, gD⟩ := Stp.newO (o := .dK []) w1 hD
        exact ⟨sD, wD, upd_same, rfl, gD, .nil, Nat.zero_le _, rfl, Nat.zero_le _, rfl⟩
      · rintro i m H2 ⟨b2, G2, ks, acc, vs2, s2, w2, hD2, hl2, gD2, r2, hacc, rfl, hi, heq⟩
        obtain ⟨wg, ws⟩ := wk i b2 G2 H2 s2 w2
        by_cases hlt : i < ds.length
        · right
          obtain ⟨go, yl⟩ := wg ds[i] (List.getElem?_eq_getElem hlt)
          rw [List.drop_eq_getElem_cons hlt, dcL] at heq
          refine ⟨go, fun H4 => ∃ b4 G4 ks4 acc4 vs4, Stp (cx K mg pb pg) G1 H1 G4 H4 ∧ Wd (cx K mg pb pg) b4 G4 H4 ∧ H4 Dl = some (.dK (ks4.zip vs4)) ∧ ks4.length = vs4.length ∧ G4 Dl = none ∧ Reps (cx K mg pb pg) G4 acc4 vs4 ∧ ks4.length ≤ i + 1 ∧
            dcL g mt mk me (wipeE env vs) ds [] [] b1 = dcL g mt mk me (wipeE env vs) (ds.drop (i + 1)) ks4 acc4 b4,
            fun H4 ⟨b4, G4, ks4, acc4, vs4, s4, w4, h4, hl4, g4, r4, l4, e4⟩ => ⟨ds.length - (i + 1), by omega, b4, G4, ks4, acc4, vs4, s4, w4, h4, hl4, g4, r4, l4, rfl, hlt, e4⟩, fun x H3 hy => ?_⟩
          obtain ⟨G3, s3, w3, r3⟩ := yl x H3 hy
          have evw : EvOk (cx K mg pb pg) H0 G3 H3 (wipeE env vs) (L2.wipe σ vs) := (((ev.step s1).step s2).step s3).wipe vs
          have qn : (R.stuck : R (List Key × List D)) = dcL g mt mk me (wipeE env vs) ds [] [] b1 → False := fun z => by
            rw [← z] at q; exact q
          cases hg : g ds[i] (wipeE env vs) with
          | none => rw [hg] at heq; exact (qn heq.symm).elim
          | some env3 =>
            rw [hg] at heq
            dsimp only at heq
            refine ⟨pb, pg, H0, _, b2, G3, ds[i], env3, w3, evw, r3, hg, fun σ4 e4 hw4 => ⟨hw4.trans (wipe_idem σ vs), pb, pg, H0, env3, b2, G3, w3, e4, ?_⟩⟩
            cases ht : mt env3 b2 with
            | stuck => rw [ht] at heq; exact (qn heq.symm).elim
            | exc e b5 => rw [ht] at heq; exact (qn heq.symm).elim
            | ok k b5 =>
              rw [ht] at heq
              simp only [R.sq_ok] at heq
              intro v5 G5 H5 s5 w5 p5
              cases (show v5 = k from p5)
              have hD5 : H5 Dl = some (.dK (ks.zip vs2)) := s5.hn nb ng (s3.fr Dl (by rw [hD2]; exact fun z => nomatch z) gD2) (s3.hn nb ng gD2 hD2)
              have gD5 : G5 Dl = none := (s3.trans s5).fr Dl (by rw [hD2]; exact fun z => nomatch z) gD2
              have st5 := s2.trans (s3.trans s5)
              cases k with
              | false =>
                rw [if_neg Bool.false_ne_true] at heq ⊢
                exact ⟨b5, G5, ks, acc, vs2, st5, w5, hD5, hl2, gD5, r2.mono (s3.trans s5).g, by omega, heq⟩
              | true =>
                rw [if_pos rfl] at heq ⊢
                refine ⟨pb, pg, H0, env3, b5, G5, w5, e4.step s5, ?_⟩
                cases hel : mk env3 b5 with
                | stuck => rw [hel] at heq; exact (qn heq.symm).elim
                | exc e b6 => rw [hel] at heq; exact (qn heq.symm).elim
                | ok y b6 =>
                  rw [hel] at heq
                  simp only [R.sq_ok] at heq
                  intro v6 G6 H6 s6 w6 p6
                  refine ⟨pb, pg, H0, env3, b6, G6, w6, (e4.step s5).step s6, ?_⟩
                  cases hel2 : me env3 b6 with
                  | stuck => rw [hel2] at heq; exact (qn heq.symm).elim
                  | exc e b7 => rw [hel2] at heq; exact (qn heq.symm).elim
                  | ok z b7 =>
                    rw [hel2] at heq
                    simp only [R.sq_ok] at heq
                    intro v7 G7 H7 s7 w7 p7
                    cases hky : keyD y with
                    | none => rw [hky] at heq; exact (qn heq.symm).elim
                    | some ky =>
                      rw [hky] at heq
                      dsimp only at heq
                      have hD7 := s7.hn nb ng (s6.fr Dl (by rw [hD5]; exact fun z => nomatch z) gD5) (s6.hn nb ng gD5 hD5)
                      have gD7 : G7 Dl = none := (s6.trans s7).fr Dl (by rw [hD5]; exact fun z => nomatch z) gD5
                      have r7 := ((r2.mono (s3.trans s5).g).mono s6.g).mono s7.g
                      have ek := rep_key p6 hky
                      subst ek
                      obtain ⟨ws7, e71, e72, e73⟩ := zip_put (k := ky) r7 hl2 p7
                      refine ⟨ks.zip vs2, ky, rfl, hD7, ?_, ?_⟩
                      · rw [zip_len hl2]
                        have : sizeLine = 16777216 := sizeLine_eq
                        omega
                      · rw [e71]
                        exact ⟨b7, G7, putKs ks ky, putDs ks acc ky z, ws7, ((st5.trans s6).trans s7).put hD, w7.put gD7 nb ng, upd_same, e72, gD7, e73, by have := putKs_len ks ky; omega, heq⟩
        · left
          have hi2 : i = ds.length := by omega
          subst hi2
          rw [List.drop_length] at heq
          refine ⟨ws rfl, ?_⟩
          rw [heq] at q
          simp only [dcL, R.bind_ok] at q
          have hDn : H Dl = none := Classical.byContradiction fun z => s1.dm Dl z hD
          exact q (.ref Dl) G2 H2 (s1.trans s2) w2 ⟨Dl, vs2, rfl, hD2, hl2, gD2, hDn, r2⟩
    · exact q.elim
theorem df_dc {ifs : List Expr} {scope : Scope} {own : List (Str × Nat)} (hc : X.calm = true) (hN : X.N.Nodup) (hi : DIc X E tg it mi) (ok : BlkOk X.N X.env.scope scope own)
    (hg : ∀ (s : Shared) (H : Hp) (C : Addr) (cl : List (Str × Addr)) (fp : List Addr), DGc (X.blk s H scope (compEnvC scope cl C X.env) fp) (own.map (·.2)) tg g) (ht : ∀ (s : Shared) (H : Hp) (C : Addr) (cl : List (Str × Addr)) (fp : List Addr), DTs (X.blk s H scope (compEnvC scope cl C X.env) fp) E0 ifs mt)
    (hk : ∀ (s : Shared) (H : Hp) (C : Addr) (cl : List (Str × Addr)) (fp : List Addr), DE (X.blk s H scope (compEnvC scope cl C X.env) fp) E0 kx mk)
    (he : ∀ (s : Shared) (H : Hp) (C : Addr) (cl : List (Str × Addr)) (fp : List Addr), DE (X.blk s H scope (compEnvC scope cl C X.env) fp) E0 vx me) (hs : ∀ x, foldedSetIterable it X.env x = pure x := by intro _; rfl) :
    DF X E (.DictComp kx vx [⟨tg, it, ifs, 0⟩] scope pos) (mDc mi g mt mk me (own.map (·.2))) :=
  PE.imp (pe_dc hc hN hi ok hg ht hk he hs) fun σ H Q h => readDc h
end
end Mr

set_option Elab.async false
set_option linter.all false
set_option maxRecDepth 100000
namespace Mr
open PySem PySem.Spec L2
section
variable {X : Cx} {E : XK} {e a b c kx vx tg it elt : Expr} {es : List Expr} {ma mb mc mk me : ME} {mi : MI} {g : MG} {mr : MA} {mt mu : MT} {pos : Pos}
/-! ### isinstance with two classes -/
def isi2G (T1 T2 : String) (d : D) : Option D := match tyD d with
  | some t => match kitB t T1, kitB t T2 with
    | some k1, some k2 => some (.bl (k1 || k2))
    | _, _ => none
  | none => none
theorem kitAny2 {K : PySem.W.Frag} {t c1 c2 : Value} {k1 k2 : Bool} (h1 : PySem.W.kitOne K t c1 = some k1) (h2 : PySem.W.kitOne K t c2 = some k2) : PySem.W.kitAny K t [c1, c2] = some (k1 || k2) := by
  unfold PySem.W.kitAny
  rw [h1]
  cases k1 with
  | true => rfl
  | false =>
    show PySem.W.kitAny K t [c2] = some k2
    unfold PySem.W.kitAny
    rw [h2]
    cases k2 <;> rfl
theorem de_isi2 {T1 T2 : String} {x1 x2 : Str} {p p2 p3 : Pos} {k : Nat} {tpos : Pos} (hg : Gl X "isinstance") (hm : X.mg "isinstance" = none) (hg1 : Gl X x1) (hm1 : X.mg x1 = none) (hb1 : bootBuiltins x1 = some (.type T1)) (hg2 : Gl X x2) (hm2 : X.mg x2 = none) (hb2 : bootBuiltins x2 = some (.type T2)) (ha : DV X E a ma)
    (hn1 : x1 ≠ "__name__" := by decide) (hd1 : (x1 == ("__debug__" : Str)) = false := by decide) (hn2 : x2 ≠ "__name__" := by decide) (hd2 : (x2 == ("__debug__" : Str)) = false := by decide)
    (s1 : starEach [a, .Tuple [.Name x1 p2, .Name x2 p3] k tpos] X.env = (false, eval a X.env) :: starEach [.Tuple [.Name x1 p2, .Name x2 p3] k tpos] X.env := by rfl) (hpl : (backTo pos (starEach [.Tuple [.Name x1 p2, .Name x2 p3] k tpos] X.env)).any (·.1) = false := by rfl)
    (s2 : starEach [.Tuple [.Name x1 p2, .Name x2 p3] k tpos] X.env = (false, eval (.Tuple [.Name x1 p2, .Name x2 p3] k tpos) X.env) :: starEach [] X.env := by rfl)
    (s3 : starEach [.Name x1 p2, .Name x2 p3] X.env = (false, eval (.Name x1 p2) X.env) :: starEach [.Name x2 p3] X.env := by rfl) (s4 : starEach [.Name x2 p3] X.env = (false, eval (.Name x2 p3) X.env) :: starEach [] X.env := by rfl) :
    DE X E (.Call (.Name "isinstance" p) [a, .Tuple [.Name x1 p2, .Name x2 p3] k tpos] [] pos) (m1 (isi2G T1 T2) ma) :=
  PE.imp (pe_callB call_isiT hg hm (by decide +kernel) (pa_cons ha (pa_cons (pe_tup (pa_cons (pe_bltn (v := .ty T1) hg1 hm1 hb1 rfl hn1 hd1) (pa_cons (pe_bltn (v := .ty T2) hg2 hm2 hb2 rfl hn2 hd2) pa_nil s4) s3)) pa_nil s2) s1) (by decide) (by decide) s1 hpl) fun σ H Q ⟨pb, pg, H0, env, b, G, w, ev, q⟩ => ⟨pb, pg, H0, env, b, G, w, ev, PstG.bind q fun a1 b1 v1 G1 H1 st1 w1 p1 q1 => by
      cases hi : isi2G T1 T2 a1 with
      | none => rw [hi] at q1; exact q1.elim
      | some d =>
        rw [hi] at q1
        unfold isi2G at hi
        split at hi
        · rename_i t ht
          split at hi
          · rename_i k1 k2 e1 e2
            cases hi
            refine ⟨by show 2 ≤ sizeLine; decide, fun p hp => ?_⟩
            obtain ⟨st2, w2⟩ := Stp.new (o := .tup [.ty T1, .ty T2]) w1 hp
            exact ⟨v1, p, [.ty T1, .ty T2], .type t, [.type T1, .type T2], _, rfl, upd_same, .cons (.ty T1) (.cons (.ty T2) .nil), vw_ty w2 (p1.mono st2) ht, kitAny2 (kit_ty e1) (kit_ty e2), q1 _ _ _ st2 w2 rfl⟩
          · cases hi
        · cases hi⟩

/-! ### a comprehension stored at once -/
theorem readAsgF {K : PySem.W.Frag} {mg : Str → Option Value} {Dn : Ends} {σ : L2.St} {H : Hp} {i : Nat} (h : tS K mg E (sAsg (gNm i) ma) Dn σ H) : tAsg (tF K mg E ma) (gName i) Dn σ H := by
  obtain ⟨pb, pg, G0, H0, env, b, G, st, w, ev, q⟩ := h
  refine ⟨pb, pg, H0, env, b, G, w, ev, PstS.bind st q fun a1 b1 v1 G1 H1 s1 w1 p1 q1 => ?_⟩
  cases a1 <;> first | exact p1.elim | skip
  · obtain ⟨p, vs, rfl, hp, gp, hn, r⟩ := p1
    obtain ⟨s2, w2⟩ := s1.freeze w1 hp hn gp (fun z => by rw [z] at hn; exact w.hbne hn) (fun z => by rw [z] at hn; exact w.hgne hn)
    exact q1 _ _ _ (st.trans s2) w2 ((ev.step s2).set_va (d := .lst _) ⟨p, vs, rfl, upd_same, r.mono (Le.new gp)⟩ i)
  · obtain ⟨p, vs, rfl, hp, hl, gp, hn, r⟩ := p1
    obtain ⟨s2, w2⟩ := s1.freeze w1 hp hn gp (fun z => by rw [z] at hn; exact w.hbne hn) (fun z => by rw [z] at hn; exact w.hgne hn)
    exact q1 _ _ _ (st.trans s2) w2 ((ev.step s2).set_va (d := .dK _ _) ⟨p, vs, rfl, upd_same, hl, r.mono (Le.new gp)⟩ i)
  · obtain ⟨p, vs, rfl, hp, hl, gp, hn, r⟩ := p1
    obtain ⟨s2, w2⟩ := s1.freeze w1 hp hn gp (fun z => by rw [z] at hn; exact w.hbne hn) (fun z => by rw [z] at hn; exact w.hgne hn)
    exact q1 _ _ _ (st.trans s2) w2 ((ev.step s2).set_va (d := .dT _ _) ⟨p, vs, rfl, upd_same, hl, r.mono (Le.new gp)⟩ i)
theorem ds_lcM (i : Nat) {y : Str} {py spos : Pos} {ifs : List Expr} {scope : Scope} {own : List (Str × Nat)} (hc : X.calm = true) (hN : X.N.Nodup) (hi : DIc X E tg it mi) (ok : BlkOk X.N X.env.scope scope own)
    (hg : ∀ (s : Shared) (H : Hp) (C : Addr) (cl : List (Str × Addr)) (fp : List Addr), DGc (X.blk s H scope (compEnvC scope cl C X.env) fp) (own.map (·.2)) tg g) (ht : ∀ (s : Shared) (H : Hp) (C : Addr) (cl : List (Str × Addr)) (fp : List Addr), DTs (X.blk s H scope (compEnvC scope cl C X.env) fp) E0 ifs mt)
    (he : ∀ (s : Shared) (H : Hp) (C : Addr) (cl : List (Str × Addr)) (fp : List Addr), DE (X.blk s H scope (compEnvC scope cl C X.env) fp) E0 elt me) (hy : X.N[i]? = some y := by rfl) (hyl : X.env.scope.names.lookup y = some .local := by rfl)
    (hsw : swapsWith (.ListComp elt [⟨tg, it, ifs, 0⟩] scope pos) (some (.Name y py)) spos.line X.env = pure true := by exact sw_true rfl rfl rfl (by decide +kernel)) (hs : ∀ x, foldedSetIterable it X.env x = pure x := by intro _; rfl) :
    DS X E (.Assign [.Name y py] (.ListComp elt [⟨tg, it, ifs, 0⟩] scope pos) spos) (sAsg (gNm i) (mLc mi g mt me (own.map (·.2)))) :=
  PS.imp (ps_setLc hc hN hy hyl hsw hi ok hg ht he hs) fun Dn σ H h => readLc (readAsgF h)
theorem ds_lcO (i : Nat) {y : Str} {py spos : Pos} {ifs : List Expr} {scope : Scope} {own : List (Str × Nat)} (hc : X.calm = true) (hN : X.N.Nodup) (hi : DIc X E tg it mi) (ok : BlkOk X.N X.env.scope scope own)
    (hg : ∀ (s : Shared) (H : Hp) (C : Addr) (cl : List (Str × Addr)) (fp : List Addr), DGc (X.blk s H scope (compEnvC scope cl C X.env) fp) (own.map (·.2)) tg g) (ht : ∀ (s : Shared) (H : Hp) (C : Addr) (cl : List (Str × Addr)) (fp : List Addr), DTs (X.blk s H scope (compEnvC scope cl C X.env) fp) E0 ifs mt)
    (he : ∀ (s : Shared) (H : Hp) (C : Addr) (cl : List (Str × Addr)) (fp : List Addr), DE (X.blk s H scope (compEnvC scope cl C X.env) fp) E0 elt me) (hy : X.N[i]? = some y := by rfl) (hyl : X.env.scope.names.lookup y = some .local := by rfl)
    (hsw : swapsWith (.ListComp elt [⟨tg, it, ifs, 0⟩] scope pos) (some (.Name y py)) spos.line X.env = pure true := by exact sw_true rfl rfl rfl (by decide +kernel)) (hs : ∀ x, foldedSetIterable it X.env x = pure x := by intro _; rfl) :
    DS X E (.Assign [.Name y py] (.ListComp elt [⟨tg, it, ifs, 0⟩] scope pos) spos) (sOwn i (mLc mi g mt me (own.map (·.2)))) :=
  PS.imp (ps_setLc hc hN hy hyl hsw hi ok hg ht he hs) fun Dn σ H h => readLc (readOwn h)
theorem de_gintE {x : Str} {i : Int} (hg : Gl X x) (hm : ∃ t, X.mg x = some (.int i t)) (hd : (x == ("__debug__" : Str)) = false := by decide) : DE X E (.Name x pos) (mC (.int i)) :=
  let ⟨_, h⟩ := hm; de_gint hg h hd
theorem de_gstrE {x z : Str} (hg : Gl X x) (hm : ∃ t, X.mg x = some (.str z t)) (hd : (x == ("__debug__" : Str)) = false := by decide) : DE X E (.Name x pos) (mC (.str z)) :=
  let ⟨_, h⟩ := hm; de_gstr hg h hd
end
theorem hu_of65 {A : Around} {k : Nat} (hr : Room k A) : A.units + 65 < cLine := by have := hr.un; omega
theorem hu_of64 {A : Around} {k : Nat} (hr : Room k A) : A.units + 64 < cLine := hr.units
/-- a def as it stands behind the top -/
def DefAt (K : PySem.W.Frag) (mg : Str → Option Value) (x : Str) (st : Stmt) (ps : List Str) : Prop := ∃ (f : Addr) (fd : FuncData), Fun K x x st f fd ∧ mg x = some (.ref f) ∧ Binds K fd ps []

/-! ### the bag -/
/-- what a draw gives, and the bag behind it -/
def pickF (b : Bag) (n : Int) : Int × Bag :=
  if b.len = 0 then (0, b) else match b.great with
  | g :: gs => (g % n, { b with great := if g < n then gs else (g / n) :: gs })
  | [] =>
    let cnt := b.cnt + 1
    let x1 := ((b.seed + 7919 * cnt) * 48271 + 11) % 2147483647
    let x2 := (x1 * (x1 / 1009 + 69621) + cnt) % 2147483399
    (x2 / 16 % n, { b with seed := (b.seed + x2) % 2147483629, cnt := cnt })
theorem pickF_nn {b : Bag} {n : Int} (h : 0 < n) : 0 ≤ (pickF b n).1 ∧ (pickF b n).1 < n := by
  unfold pickF
  split
  · exact ⟨Int.le_refl 0, h⟩
  · split
    · exact ⟨Int.emod_nonneg _ (by omega), Int.emod_lt_of_pos _ h⟩
    · exact ⟨Int.emod_nonneg _ (by omega), Int.emod_lt_of_pos _ h⟩
def fm_pick : MF := fun ds b => match ds with
  | [.bag, .int n] => if 0 < n ∧ n < 1073741824 then .ok (.int (pickF b n).1) (pickF b n).2 else .stuck
  | _ => .stuck
end Mr

set_option Elab.async false
set_option linter.all false
set_option maxRecDepth 100000
namespace Mr
open PySem PySem.Spec L2

theorem Wd.bag1 {c : MC} {b : Bag} {G H : Hp} (w : Wd c b G H) (seed cnt : Int) : Stp c G H G (upd H c.pb (.lst [.ref c.pg, .int seed, .int b.len, .int cnt])) ∧ Wd c { b with seed := seed, cnt := cnt } G (upd H c.pb (.lst [.ref c.pg, .int seed, .int b.len, .int cnt])) := by
  refine ⟨⟨Le.refl _, fun a u n m e => by rw [upd_ne n]; exact .inl e, fun a h e => e, fun a h => ?_⟩, ⟨fun a u e => ?_, w.nz, w.gb, w.gg, w.ne, by rw [upd_same], by rw [upd_ne (Ne.symm w.ne)]; exact w.hg, w.bz⟩⟩
  · by_cases z : a = c.pb
    · rw [z, upd_same]; exact fun z => nomatch z
    · rw [upd_ne z]; exact h
  · have ne : a ≠ c.pb := (w.notb e).1
    rw [upd_ne ne]
    exact w.sub a u e
theorem Wd.bagG {c : MC} {b : Bag} {G H : Hp} (w : Wd c b G H) (gr : List Int) (hz : gr.length ≤ 63) : Stp c G H G (upd H c.pg (.lst (gr.map V.int))) ∧ Wd c { b with great := gr } G (upd H c.pg (.lst (gr.map V.int))) := by
  refine ⟨⟨Le.refl _, fun a u n m e => by rw [upd_ne m]; exact .inl e, fun a h e => e, fun a h => ?_⟩, ⟨fun a u e => ?_, w.nz, w.gb, w.gg, w.ne, by rw [upd_ne w.ne]; exact w.hb, by rw [upd_same], hz⟩⟩
  · by_cases z : a = c.pg
    · rw [z, upd_same]; exact fun z => nomatch z
    · rw [upd_ne z]; exact h
  · have ne : a ≠ c.pg := (w.notb e).2
    rw [upd_ne ne]
    exact w.sub a u e
theorem Wd.lb {c : MC} {b : Bag} {G H : Hp} (w : Wd c b G H) : SqL c.K H c.pb [.ref c.pg, .int b.seed, .int b.len, .int b.cnt] := .inl (.inl w.hb)
theorem Wd.lg {c : MC} {b : Bag} {G H : Hp} (w : Wd c b G H) : SqL c.K H c.pg (b.great.map V.int) := .inl (.inl w.hg)
end Mr

set_option Elab.async false
set_option linter.all false
set_option maxRecDepth 100000
namespace Mr
open PySem PySem.Spec L2

/-! ### what a law draws of -/
def spBag (K : PySem.W.Frag) : Sp := fun vs H Q _ => ∃ (a : Addr) (ns : List Int), vs = [.ref a] ∧ SqL K H a (ns.map V.int) ∧ ns.length ≤ 63 ∧ ∀ (H' : Hp) (pb pg : Addr) (gr : List Int) (sd ln : Int), H pb = none → H pg = none → pb ≠ pg → H' pb = some (.lst [.ref pg, .int sd, .int ln, .int 0]) → H' pg = some (.lst (gr.map V.int)) → gr.length ≤ 63 → Q (.ref pb) H'
theorem lit_le {gr : List Int} (h : gr.length ≤ 63) : (gr.map V.int).length < sizeLine := by
  rw [List.length_map]
  have : sizeLine = 16777216 := sizeLine_eq
  omega
theorem cut63 {ns : List Int} (h : ns.length ≤ 63) : cutV (ns.map V.int) none (some 63) = ns.map V.int := by
  unfold cutV
  rw [HT.sIx_none, show HT.sIx (ns.map V.int).length (ns.map V.int).length (some 63) = min 63 (ns.map V.int).length from HT.sIx_nat _ _ 63]
  rw [List.drop_zero, List.take_of_length_le]
  rw [List.length_map]
  omega
theorem wd0 {K : PySem.W.Frag} {mg : Str → Option Value} {pb pg : Addr} {H : Hp} {gr : List Int} {sd ln : Int} (ne : pb ≠ pg) (hb : H pb = some (.lst [.ref pg, .int sd, .int ln, .int 0])) (hg : H pg = some (.lst (gr.map V.int))) (hz : gr.length ≤ 63) :
    Wd (cx K mg pb pg) ⟨gr, sd, ln, 0⟩ (fun _ => none) H :=
  ⟨(fun a u e => nomatch e), (fun a u e => nomatch e), rfl, rfl, ne, hb, hg, hz⟩
theorem ev0 {K : PySem.W.Frag} {mg : Str → Option Value} {pb pg : Addr} {H : Hp} {b : Bag} {v0 : Option V} {n : Nat} {r : List (Option V)} (w : Wd (cx K mg pb pg) b (fun _ => none) H) (hr : r.length = n) :
    EvOk (cx K mg pb pg) H (fun _ => none) H (.un :: .va .bag :: List.replicate n .un) (v0 :: some (.ref pb) :: r) := by
  refine ⟨by simp [hr], fun i s e => ?_, fun i j si sj p ne e1 e2 o1 o2 => ?_, w.hbne, w.hgne⟩
  · match i with
    | 0 => cases e; exact ⟨v0, rfl, trivial⟩
    | 1 =>
      cases e
      refine ⟨_, rfl, _, rfl, ?_⟩
      show Rep _ _ .bag _
      unfold Rep
      rfl
    | i + 2 =>
      have e : (List.replicate n Sl.un)[i]? = some s := e
      rw [List.getElem?_replicate] at e
      split at e
      · rename_i h
        cases e
        obtain ⟨x, hx⟩ : ∃ x, r[i]? = some x := ⟨r[i], List.getElem?_eq_getElem (by omega)⟩
        exact ⟨x, hx, trivial⟩
      · cases e
  · exfalso
    match i with
    | 0 => cases e1; cases o1
    | 1 => cases e1; cases o1
    | i + 2 =>
      have e : (List.replicate n Sl.un)[i]? = some si := e1
      rw [List.getElem?_replicate] at e
      split at e
      · cases e; cases o1
      · cases e
/-- the law's own promise -/
def spLaw (K : PySem.W.Frag) : Sp := fun vs H Q _ => ∃ (a : Addr) (ns : List Int), vs = [.ref a] ∧ SqL K H a (ns.map V.int) ∧ ns.length ≤ 63 ∧ ∀ H', Q (.bl true) H'
/-- its mirror says True of every bag -/
def Says (n : Nat) (ms : MS) : Prop := ∀ b : Bag, b.great.length ≤ 63 → ∃ b', ms (.un :: .va .bag :: List.replicate n .un) b = .rt (.bl true) b'
theorem law_tail {K : PySem.W.Frag} {mg : Str → Option Value} {n : Nat} {ms : MS} (hs : Says n ms) {Q : VK} (hq : ∀ H, Q (.bl true) H) {D : Ends} (hD : D.rt = Q) {pb pg : Addr} {H : Hp} {gr : List Int} {sd ln : Int} (ne : pb ≠ pg) (hb : H pb = some (.lst [.ref pg, .int sd, .int ln, .int 0])) (hg : H pg = some (.lst (gr.map V.int))) (hz : gr.length ≤ 63) {v0 : Option V} {r : List (Option V)} (hr : r.length = n) {E : XK} :
    tS K mg E ms D (v0 :: some (.ref pb) :: r) H := by
  have w : Wd (cx K mg pb pg) ⟨gr, sd, ln, 0⟩ (fun _ => none) H := wd0 ne hb hg hz
  refine ⟨pb, pg, _, H, _, _, _, Stp.refl _ _ _, w, ev0 w hr, ?_⟩
  obtain ⟨b', e⟩ := hs ⟨gr, sd, ln, 0⟩ hz
  rw [e]
  intro v G' H' _ _ p
  cases (show v = .bl true from p)
  rw [hD]
  exact hq H'
theorem cInt_mk {K : PySem.W.Frag} {mg : Str → Option Value} {h : Heap} (X : K.In h) (G : h.Ns mainGlobals mg) {x : Str} {i : Int} {t : Tok} (a : PySem.W.nsIn K mainGlobals x = some (some (.int i t))) : ∃ t, mg x = some (.int i t) := ⟨t, PySem.W.mg_of X G a⟩
theorem cStr_mk {K : PySem.W.Frag} {mg : Str → Option Value} {h : Heap} (X : K.In h) (G : h.Ns mainGlobals mg) {x : Str} {i : Str} {t : Tok} (a : PySem.W.nsIn K mainGlobals x = some (some (.str i t))) : ∃ t, mg x = some (.str i t) := ⟨t, PySem.W.mg_of X G a⟩
theorem defAt_mk {K : PySem.W.Frag} {mg : Str → Option Value} {h : Heap} (X : K.In h) (G : h.Ns mainGlobals mg) {x : Str} {st : Stmt} {ps : List Str} {f : Addr} {oc : Value} {od an : Option Addr} {osl : Array (Option Value)} {kV doc pm cdv ct : Value}
    (a : PySem.W.nsIn K mainGlobals x = some (some (.ref f))) (l : K.lookup f = some ⟨oc, od, .func (PySem.W.fnOf x x (defArgs st) (defBody st) (defScope st) .none kV doc pm an cdv ct), osl⟩) (c : PySem.W.codeIn K cdv x = true) (k : PySem.W.keepIn K (.ref f) = true)
    (hb : ∀ (kV doc pm : Value) (an : Option Addr) (cdv ct : Value) (us : List Value), us.length = ps.length → bindArgs (PySem.W.fnOf x x (defArgs st) (defBody st) (defScope st) .none kV doc pm an cdv ct) ⟨us, []⟩ = pure (ps.zip us)) : DefAt K mg x st ps :=
  ⟨f, _, fun_mk l c k, PySem.W.mg_of X G a, (fun_mk l c k).binds hb⟩
end Mr

set_option Elab.async false
set_option linter.all false
set_option maxRecDepth 100000
namespace Mr
open PySem PySem.Spec L2
def absI (i : Int) : Int := if i < 0 then -i else i
/-! ### the mirrors as rewrite rules -/
section
variable {env : Ev} {b : Bag} {d x y : D} {ds es : List D} {ma mb mc me : ME} {mt mu : MT} {mr : MA} {ms mv mw : MS} {g : MG} {gs : MGs} {mi : MI} {i : Nat} {n : Nat} {α β : Type}
@[simp] theorem e_mC : mC d env b = .ok d b := rfl
@[simp] theorem e_mVar0 : mVar 0 (.va d :: env) b = .ok d b := rfl
@[simp] theorem e_mVarS {s : Sl} : mVar (i + 1) (s :: env) b = mVar i env b := rfl
@[simp] theorem e_mOwn0 : mOwn 0 (.ol ds :: env) b = .ok (.lst ds) b := rfl
@[simp] theorem e_mOwn1 : mOwn 0 (.va d :: env) b = .ok d b := rfl
@[simp] theorem e_mOwn2 {ks : List Key} : mOwn 0 (.oK ks ds :: env) b = .ok (.dK ks ds) b := rfl
@[simp] theorem e_mOwn3 {ks : List (List Key)} : mOwn 0 (.oT ks ds :: env) b = .ok (.dT ks ds) b := rfl
@[simp] theorem e_mOwnS {s : Sl} : mOwn (i + 1) (s :: env) b = mOwn i env b := rfl
@[simp] theorem e_m1 {f : D → Option D} : m1 f ma env b = (ma env b).bind fun x b => R.opt (f x) b := rfl
@[simp] theorem e_m2 {f : D → D → Option D} : m2 f ma mb env b = (ma env b).bind fun x b => (mb env b).bind fun y b => R.opt (f x y) b := rfl
@[simp] theorem e_mNil : mNil env b = .ok [] b := rfl
@[simp] theorem e_mCons : mCons ma mr env b = (ma env b).bind fun x b => (mr env b).bind fun xs b => .ok (x :: xs) b := rfl
@[simp] theorem e_mB {f : List D → Option D} : mB f mr env b = (mr env b).bind fun xs b => R.opt (f xs) b := rfl
@[simp] theorem e_mT : mT ma env b = (ma env b).bind fun x b => R.opt (asB x) b := rfl
@[simp] theorem e_mAndT : mAndT mt mu env b = (mt env b).bind fun x b => if x = true then mu env b else .ok false b := rfl
@[simp] theorem e_mOrT : mOrT mt mu env b = (mt env b).bind fun x b => if x = true then .ok true b else mu env b := rfl
@[simp] theorem e_mNotT : mNotT mt env b = (mt env b).bind fun x b => .ok (!x) b := rfl
def andK (c : ME) (env : Ev) (x : D) (b : Bag) : R D := match x with
  | .bl true => c env b
  | .bl false => .ok (.bl false) b
  | _ => .stuck
def orK (c : ME) (env : Ev) (x : D) (b : Bag) : R D := match x with
  | .bl true => .ok (.bl true) b
  | .bl false => c env b
  | _ => .stuck
@[simp] theorem e_mAnd : mAnd ma mb env b = (ma env b).bind fun x b => andK mb env x b := rfl
@[simp] theorem e_mOr : mOr ma mb env b = (ma env b).bind fun x b => orK mb env x b := rfl
@[simp] theorem e_andK {k : Bool} : andK ma env (.bl k) b = if k = true then ma env b else .ok (.bl false) b := by cases k <;> rfl
@[simp] theorem e_orK {k : Bool} : orK ma env (.bl k) b = if k = true then .ok (.bl true) b else ma env b := by cases k <;> rfl
def notK (x : D) (b : Bag) : R D := match x with
  | .bl k => .ok (.bl (!k)) b
  | _ => .stuck
@[simp] theorem e_mNot : mNot ma env b = (ma env b).bind notK := rfl
@[simp] theorem e_notK {k : Bool} : notK (.bl k) b = .ok (.bl (!k)) b := rfl
@[simp] theorem e_mIf : mIf mt ma mb env b = (mt env b).bind fun x b => if x = true then ma env b else mb env b := rfl
def chK (g' : D → D → Option D) (mc : ME) (env : Ev) (y : D) (b : Bag) (o : Option D) : R D := match o with
  | some (.bl true) => (mc env b).bind fun z b => R.opt (g' y z) b
  | some (.bl false) => .ok (.bl false) b
  | _ => .stuck
@[simp] theorem e_mCh {f f' : D → D → Option D} : mCh f f' ma mb mc env b = (ma env b).bind fun x b => (mb env b).bind fun y b => chK f' mc env y b (f x y) := rfl
@[simp] theorem e_chK {f' : D → D → Option D} {k : Bool} : chK f' mc env y b (some (.bl k)) = if k = true then (mc env b).bind fun z b => R.opt (f' y z) b else .ok (.bl false) b := by cases k <;> rfl
@[simp] theorem bind_ite {c : Prop} [Decidable c] {x y : R α} {f : α → Bag → R β} : (if c then x else y).bind f = if c then x.bind f else y.bind f := by split <;> rfl
@[simp] theorem so_ite {c : Prop} [Decidable c] {x y : R α} {f : α → Bag → SO} : (if c then x else y).so f = if c then x.so f else y.so f := by split <;> rfl
@[simp] theorem sq_ite {c : Prop} [Decidable c] {x y : R α} {f : α → Bag → R β} : (if c then x else y).sq f = if c then x.sq f else y.sq f := by split <;> rfl
@[simp] theorem bind_so {x : R α} {f : α → Bag → R β} {k : β → Bag → SO} : (x.bind f).so k = x.so fun a b => (f a b).so k := by cases x <;> rfl
@[simp] theorem bind_bind {γ : Type} {x : R α} {f : α → Bag → R β} {k : β → Bag → R γ} : (x.bind f).bind k = x.bind fun a b => (f a b).bind k := by cases x <;> rfl
@[simp] theorem opt_bl {k : Bool} : R.opt (asB (.bl k)) b = .ok k b := rfl
/-- defs -/
def finK : SO → R D
  | .nx _ b => .ok .non b
  | .rt d b => .ok d b
  | .exc e b => .exc e b
  | _ => .stuck
theorem e_fnM : fnM n ms ds b = finK (ms (ds.map Sl.va ++ List.replicate (n - ds.length) .un) b) := by
  unfold fnM finK
  rfl
@[simp] theorem fin_nx : finK (.nx env b) = .ok .non b := rfl
@[simp] theorem fin_rt : finK (.rt d b) = .ok d b := rfl
@[simp] theorem fin_exc {e : Exn} : finK (.exc e b) = .exc e b := rfl
@[simp] theorem fin_ite {c : Prop} [Decidable c] {x y : SO} : finK (if c then x else y) = if c then finK x else finK y := by split <;> rfl
@[simp] theorem e_mCall {fm : MF} : mCall fm mr env b = (mr env b).bind fun ds b => fm ds b := rfl
@[simp] theorem e_mCall0 {fm : MF} : mCall0 fm mr env b = (mr env b).bind fun ds b => (fm ds b).nox := rfl
@[simp] theorem nox_ite {c : Prop} [Decidable c] {x y : R α} : (if c then x else y).nox = if c then x.nox else y.nox := by split <;> rfl
/-- statements: one, then what follows -/
def seqK (m : MS) : SO → SO
  | .nx env b => m env b
  | o => o
@[simp] theorem e_seq : sSeq ms mv env b = seqK mv (ms env b) := by
  unfold sSeq seqK
  rfl
@[simp] theorem seq_nx : seqK ms (.nx env b) = ms env b := rfl
@[simp] theorem seq_rt : seqK ms (.rt d b) = .rt d b := rfl
@[simp] theorem seq_exc {e : Exn} : seqK ms (.exc e b) = .exc e b := rfl
@[simp] theorem seq_bk : seqK ms (.bk env b) = .bk env b := rfl
@[simp] theorem seq_ct : seqK ms (.ct env b) = .ct env b := rfl
@[simp] theorem seq_ite {c : Prop} [Decidable c] {x y : SO} : seqK ms (if c then x else y) = if c then seqK ms x else seqK ms y := by split <;> rfl
@[simp] theorem e_skip : sSkip env b = .nx env b := rfl
@[simp] theorem e_bk : sBk env b = .bk env b := rfl
@[simp] theorem e_ct : sCt env b = .ct env b := rfl
@[simp] theorem e_drop : sDrop ma env b = (ma env b).so fun _ b => .nx env b := rfl
@[simp] theorem e_ret : sRet ma env b = (ma env b).so fun d b => .rt d b := rfl
@[simp] theorem e_retN : sRetN env b = .rt .non b := rfl
@[simp] theorem e_if : sIf mt ms mv env b = (mt env b).so fun k b => if k = true then ms env b else mv env b := rfl
def asgK (b : Bag) : Option Ev → SO
  | some env => .nx env b
  | none => .stuck
@[simp] theorem e_asg : sAsg g ma env b = (ma env b).so fun d b => asgK b (g d env) := rfl
@[simp] theorem e_asgK : asgK b (some env) = .nx env b := rfl
@[simp] theorem e_gNm : gNm i d env = some (env.set i (.va d)) := rfl
@[simp] theorem e_gNl : gNl [] env = some env := rfl
@[simp] theorem e_gCn : gCn g gs (d :: ds) env = (g d env).bind fun env => gs ds env := rfl
@[simp] theorem e_gTp : gTp gs (.tup ds) env = gs ds env := rfl
def ownK (env : Ev) (i : Nat) (b : Bag) : Option Sl → SO
  | some s => .nx (env.set i s) b
  | none => .stuck
@[simp] theorem e_own : sOwn i ma env b = (ma env b).so fun d b => ownK env i b (ownS d) := rfl
@[simp] theorem e_ownK {s : Sl} : ownK env i b (some s) = .nx (env.set i s) b := rfl
@[simp] theorem e_ownL : ownS (.lst ds) = some (.ol ds) := rfl
@[simp] theorem e_ownD {ks : List Key} : ownS (.dK ks ds) = some (.oK ks ds) := rfl
@[simp] theorem e_frz : sFrz i ms env b = ms (frz env i) b := rfl
@[simp] theorem e_frz0 : frz (.ol ds :: env) 0 = .va (.lst ds) :: env := rfl
@[simp] theorem e_frz1 : frz (.va d :: env) 0 = .va d :: env := rfl
@[simp] theorem e_frz2 {ks : List Key} : frz (.oK ks ds :: env) 0 = .va (.dK ks ds) :: env := rfl
@[simp] theorem e_frz3 {ks : List (List Key)} : frz (.oT ks ds :: env) 0 = .va (.dT ks ds) :: env := rfl
@[simp] theorem e_frz4 : frz (.un :: env) 0 = .un :: env := rfl
@[simp] theorem e_frzS {s : Sl} : frz (s :: env) (i + 1) = s :: frz env i := by
  unfold frz
  rw [List.getElem?_cons_succ]
  cases env[i]? <;> rfl
def methK (env : Ev) (i : Nat) (b : Bag) : Option (List D) → SO
  | some ds' => .nx (env.set i (.ol ds')) b
  | none => .stuck
@[simp] theorem e_methK : methK env i b (some ds) = .nx (env.set i (.ol ds)) b := rfl
@[simp] theorem e_for : sFor mi g ms env b = (mi env b).so fun ds b => forL g ms ds env b := rfl
@[simp] theorem e_while {t : MT} : sWhile n t ms env b = whl t ms n env b := rfl
@[simp] theorem e_lc {vs : List Nat} : mLc mi g mt me vs env b = (mi env b).bind fun ds b => if ds.length ≤ 100000 then (lcL g mt me (wipeE env vs) ds b).bind fun r b => .ok (.lst r) b else .stuck := rfl
@[simp] theorem e_yes : mYes env b = .ok true b := rfl
@[simp] theorem e_mSeq : mSeq ma env b = (ma env b).bind fun d b => R.opt (seqD d) b := rfl
@[simp] theorem e_seqT : seqD (.tup ds) = some ds := rfl
@[simp] theorem e_seqL : seqD (.lst ds) = some ds := rfl
def rgK (d : D) (b : Bag) : R (List D) := match d with
  | .int n => if -1000000 ≤ n ∧ n ≤ 1000000 then .ok ((List.range n.toNat).map fun i => .int (i : Nat)) b else .stuck
  | _ => .stuck
@[simp] theorem e_rg1 : mRg1 ma env b = (ma env b).bind rgK := rfl
@[simp] theorem e_rgK {n : Int} : rgK (.int n) b = if -1000000 ≤ n ∧ n ≤ 1000000 then .ok ((List.range n.toNat).map fun i => .int (i : Nat)) b else .stuck := rfl
def rg2K (d e : D) (b : Bag) : R (List D) := match d, e with
  | .int l, .int n => if -1000000 ≤ l ∧ l ≤ 1000000 ∧ -1000000 ≤ n ∧ n ≤ 1000000 then .ok ((List.range (n - l).toNat).map fun i => .int (l + (i : Nat))) b else .stuck
  | _, _ => .stuck
@[simp] theorem e_rg2 : mRg2 ma mb env b = (ma env b).bind fun d b => (mb env b).bind fun e b => rg2K d e b := rfl
@[simp] theorem e_rg2K {l n : Int} : rg2K (.int l) (.int n) b = if -1000000 ≤ l ∧ l ≤ 1000000 ∧ -1000000 ≤ n ∧ n ≤ 1000000 then .ok ((List.range (n - l).toNat).map fun i => .int (l + (i : Nat))) b else .stuck := rfl
def enK (d : D) (b : Bag) : R (List D) := match d with
  | .lst ds => .ok (enumD 0 ds) b
  | _ => .stuck
@[simp] theorem e_en : mEnumL ma env b = (ma env b).bind enK := rfl
@[simp] theorem e_enK : enK (.lst ds) b = .ok (enumD 0 ds) b := rfl
@[simp] theorem e_mTup : mTup mr env b = (mr env b).bind fun xs b => if xs.length ≤ 100000 then .ok (.tup xs) b else .stuck := rfl
@[simp] theorem e_mLst : mLst mr env b = (mr env b).bind fun xs b => if xs.length ≤ 100000 then .ok (.lst xs) b else .stuck := rfl
@[simp] theorem e_for0 : forL g ms [] env b = .nx env b := rfl
@[simp] theorem e_lc0 : lcL g mt me env [] b = .ok [] b := rfl
@[simp] theorem e_wipe0 : wipeE env [] = env := rfl
@[simp] theorem e_wipeS {v : Nat} {vs : List Nat} : wipeE env (v :: vs) = (wipeE env vs).set v .un := rfl
/-- operations -/
@[simp] theorem o_add {p q : Int} : addG (.int p) (.int q) = some (.int (p + q)) := rfl
@[simp] theorem o_addL {p q : List D} : addG (.lst p) (.lst q) = if p.length + q.length ≤ 100000 then some (.lst (p ++ q)) else none := rfl
@[simp] theorem o_addT {p q : List D} : addG (.tup p) (.tup q) = if p.length + q.length ≤ 100000 then some (.tup (p ++ q)) else none := rfl
@[simp] theorem o_sub {p q : Int} : subG (.int p) (.int q) = some (.int (p - q)) := rfl
@[simp] theorem o_mul {p q : Int} : mulG (.int p) (.int q) = if smallI p = true ∨ smallI q = true then some (.int (p * q)) else none := rfl
@[simp] theorem o_div {p q : Int} : divG (.int p) (.int q) = if 0 < q ∧ q < 1073741824 then some (.int (p / q)) else none := rfl
@[simp] theorem o_mod {p q : Int} : modG (.int p) (.int q) = if 0 < q then some (.int (p % q)) else none := rfl
@[simp] theorem o_lt {p q : Int} : ltG (.int p) (.int q) = some (.bl (decide (p < q))) := rfl
@[simp] theorem o_le {p q : Int} : leG (.int p) (.int q) = some (.bl (decide (p ≤ q))) := rfl
@[simp] theorem o_gt {p q : Int} : gtG (.int p) (.int q) = some (.bl (decide (q < p))) := rfl
@[simp] theorem o_ge {p q : Int} : geG (.int p) (.int q) = some (.bl (decide (q ≤ p))) := rfl
@[simp] theorem o_neg {p : Int} : negG (.int p) = some (.int (-p)) := rfl
@[simp] theorem o_is : isG d .non = some (.bl (isNonD d)) := rfl
@[simp] theorem o_isn : isnG d .non = some (.bl (!isNonD d)) := rfl
@[simp] theorem o_non : isNonD .non = true := rfl
@[simp] theorem o_nonI {p : Int} : isNonD (.int p) = false := rfl
@[simp] theorem o_lenT : lenG [.tup ds] = some (.int ds.length) := rfl
@[simp] theorem o_lenL : lenG [.lst ds] = some (.int ds.length) := rfl
@[simp] theorem o_abs {p : Int} : absG [.int p] = some (.int (absI p)) := rfl
@[simp] theorem o_min {p q : Int} : min2G [.int p, .int q] = some (.int (if q < p then q else p)) := rfl
@[simp] theorem o_max {p q : Int} : max2G [.int p, .int q] = some (.int (if q > p then q else p)) := rfl
@[simp] theorem o_ixT {p : Int} : ixG (.tup ds) (.int p) = atI ds p := rfl
@[simp] theorem o_ixL {p : Int} : ixG (.lst ds) (.int p) = atI ds p := rfl
@[simp] theorem o_tupL : tupleG [.lst ds] = some (.tup ds) := rfl
@[simp] theorem o_tupT : tupleG [.tup ds] = some (.tup ds) := rfl
@[simp] theorem o_lstL : listG [.lst ds] = some (.lst ds) := rfl
@[simp] theorem o_lstT : listG [.tup ds] = some (.lst ds) := rfl
@[simp] theorem o_revL : revG (.lst ds) = some (.lst ds.reverse) := rfl
@[simp] theorem o_revT : revG (.tup ds) = some (.tup ds.reverse) := rfl
@[simp] theorem o_boolI {p : Int} : boolG [.int p] = some (.bl (p != 0)) := rfl
@[simp] theorem o_boolB {k : Bool} : boolG [.bl k] = some (.bl k) := rfl
@[simp] theorem o_all {bs : List Bool} : allG [.lst (bs.map D.bl)] = some (.bl (bs.all id)) := by
  show (blsD _).map _ = _
  rw [blsD_map]
  rfl
@[simp] theorem o_any {bs : List Bool} : anyG [.lst (bs.map D.bl)] = some (.bl (bs.any id)) := by
  show (blsD _).map _ = _
  rw [blsD_map]
  rfl
theorem ok_int {p : Int} : okD (.int p) = true := by
  show SeqAt.shaped (.int p) = true
  rfl
theorem ok_bl {p : Bool} : okD (.bl p) = true := rfl
@[simp] theorem o_eqI {p q : Int} : eqG (.int p) (.int q) = some (.bl (decide (p = q))) := by
  unfold eqG
  rw [if_pos ⟨ok_int, ok_int⟩]
  show some (D.bl (PyData.eqv (.int p) (.int q))) = _
  rw [show PyData.eqv (.int p) (.int q) = (p == q) from rfl]
  congr 2
end
end Mr

set_option Elab.async false
set_option linter.all false
set_option maxRecDepth 100000
namespace Mr
open PySem PySem.Spec L2
section
variable {env : Ev} {b : Bag} {d x y : D} {ds es : List D} {ma mb mc me : ME} {mt mu : MT} {mr : MA} {ms mv mw : MS} {g : MG} {gs : MGs} {mi : MI} {i : Nat} {n : Nat} {α β ι : Type}
@[simp] theorem e_slNil : slNil env b = .ok [] b := rfl
@[simp] theorem e_slM {r : MSl} : slM ma r env b = (ma env b).bind fun d b => (r env b).bind fun ss b => .ok (.va d :: ss) b := rfl
def slK (r : MSl) (env : Ev) (b : Bag) : Option Sl → R (List Sl)
  | some s => (r env b).bind fun ss b => .ok (s :: ss) b
  | none => .stuck
@[simp] theorem e_slF {r : MSl} : slF ma r env b = (ma env b).bind fun d b => slK r env b (ownS d) := rfl
@[simp] theorem e_slK {r : MSl} {s : Sl} : slK r env b (some s) = (r env b).bind fun ss b => .ok (s :: ss) b := rfl
@[simp] theorem e_par {is : List Nat} {r : MSl} : sPar is r env b = (r env b).so fun ss b => asgK b (setAll env is ss) := rfl
@[simp] theorem e_setAll0 : setAll env [] [] = some env := rfl
@[simp] theorem e_setAll1 {is : List Nat} {s : Sl} {ss : List Sl} : setAll env (i :: is) (s :: ss) = setAll (env.set i s) is ss := rfl
def olK (f : List D → List D → Option (List D)) (mr : MA) (env : Ev) (i : Nat) (b : Bag) : Option Sl → SO
  | some (.ol ds) => (mr env b).so fun as b => methK env i b (f ds as)
  | _ => .stuck
@[simp] theorem e_methO {f : List D → List D → Option (List D)} : sMeth i mr f env b = olK f mr env i b env[i]? := by
  unfold sMeth olK methK
  cases env[i]? with
  | none => rfl
  | some s => cases s <;> rfl
@[simp] theorem e_olK {f : List D → List D → Option (List D)} : olK f mr env i b (some (.ol ds)) = (mr env b).so fun as b => methK env i b (f ds as) := rfl
@[simp] theorem o_app : appG ds [d] = if ds.length < 100000 then some (ds ++ [d]) else none := rfl
@[simp] theorem o_ins {k : Int} : insG ds [.int k, d] = if ds.length < 100000 ∧ 0 ≤ k ∧ k < 1000000 then some (ds.take k.toNat ++ [d] ++ ds.drop k.toNat) else none := rfl
@[simp] theorem at0 : atI (d :: ds) 0 = some d := atI_nat (j := 0) rfl
@[simp] theorem at1 : atI (d :: x :: ds) 1 = some x := atI_nat (j := 1) rfl
theorem at_nat (k : Nat) : atI ds (k : Int) = ds[k]? := by
  cases h : ds[k]? with
  | none =>
    unfold atI ixN
    have : ds.length ≤ k := by simpa using h
    split <;> simp_all <;> omega
  | some d => exact atI_nat h
/-- a comprehension whose parts change nothing -/
theorem lc_pure (l : List ι) (enc : ι → D) (p : ι → Bool) (f : ι → D) (h : ∀ x ∈ l, ∃ env1, g (enc x) env = some env1 ∧ mt env1 b = .ok (p x) b ∧ (p x = true → me env1 b = .ok (f x) b)) : lcL g mt me env (l.map enc) b = .ok ((l.filter p).map f) b := by
  induction l with
  | nil => rfl
  | cons x l ih =>
    obtain ⟨env1, h1, h2, h3⟩ := h x (List.mem_cons_self)
    have ih := ih fun y hy => h y (List.mem_cons_of_mem _ hy)
    rw [List.map_cons]
    unfold lcL
    rw [h1]
    dsimp only
    rw [h2]
    by_cases hp : p x = true
    · simp [h3 hp, ih, hp]
    · simp [ih, hp]
theorem lc_all (l : List ι) (enc : ι → D) (f : ι → D) (h : ∀ x ∈ l, ∃ env1, g (enc x) env = some env1 ∧ me env1 b = .ok (f x) b) : lcL g mYes me env (l.map enc) b = .ok (l.map f) b := by
  rw [lc_pure l enc (fun _ => true) f fun x hx => by obtain ⟨e, h1, h2⟩ := h x hx; exact ⟨e, h1, rfl, fun _ => h2⟩]
  rw [List.filter_eq_self.mpr (fun _ _ => rfl)]
/-- the same on the data themselves -/
theorem lc_all' (f : D → D) (h : ∀ x ∈ ds, ∃ env1, g x env = some env1 ∧ me env1 b = .ok (f x) b) : lcL g mYes me env ds b = .ok (ds.map f) b := by
  have := lc_all (g := g) (me := me) (env := env) (b := b) ds id f h
  rwa [List.map_id] at this
/-- a comprehension that draws: what all it makes are -/
theorem lc_draw {I : Bag → Prop} {Q : D → Prop} (h : ∀ x ∈ ds, ∀ b, I b → ∃ env1, g x env = some env1 ∧ ∃ k b1, mt env1 b = .ok k b1 ∧ I b1 ∧ (k = true → ∃ y b2, me env1 b1 = .ok y b2 ∧ I b2 ∧ Q y)) :
    ∀ b, I b → ∃ r b', lcL g mt me env ds b = .ok r b' ∧ I b' ∧ (∀ y ∈ r, Q y) ∧ r.length ≤ ds.length := by
  induction ds with
  | nil => exact fun b hb => ⟨[], b, rfl, hb, fun y hy => by simp at hy, by simp⟩
  | cons x l ih =>
    intro b hb
    obtain ⟨env1, h1, k, b1, h2, hb1, h3⟩ := h x List.mem_cons_self b hb
    have ih := ih fun y hy => h y (List.mem_cons_of_mem _ hy)
    unfold lcL
    rw [h1]
    dsimp only
    rw [h2]
    cases k with
    | false =>
      obtain ⟨r, b', e, i, q, l⟩ := ih b1 hb1
      exact ⟨r, b', by simpa using e, i, q, by simp; omega⟩
    | true =>
      obtain ⟨y, b2, e2, hb2, q2⟩ := h3 rfl
      obtain ⟨r, b', e, i, q, l⟩ := ih b2 hb2
      refine ⟨y :: r, b', by simp [e2, e], i, fun z hz => ?_, by simp; omega⟩
      rcases List.mem_cons.mp hz with rfl | hz
      · exact q2
      · exact q z hz
/-- a loop that keeps I: it ends, or hands back something that T allows -/
theorem for_inv {I : List D → Ev → Bag → Prop} {T : SO → Prop} (h : ∀ x l env b, I (x :: l) env b → ∃ env1, g x env = some env1 ∧ ((∃ env2 b2, (ms env1 b = .nx env2 b2 ∨ ms env1 b = .ct env2 b2) ∧ I l env2 b2) ∨ (T (ms env1 b) ∧ ((∃ d b2, ms env1 b = .rt d b2) ∨ ∃ e b2, ms env1 b = .exc e b2)))) :
    ∀ ds env b, I ds env b → (∃ env' b', forL g ms ds env b = .nx env' b' ∧ I [] env' b') ∨ T (forL g ms ds env b) := by
  intro ds
  induction ds with
  | nil => exact fun env b hb => .inl ⟨env, b, rfl, hb⟩
  | cons x l ih =>
    intro env b hb
    obtain ⟨env1, h1, h2⟩ := h x l env b hb
    unfold forL
    rw [h1]
    dsimp only
    rcases h2 with ⟨env2, b2, e | e, i⟩ | ⟨t, ⟨d, b2, e⟩ | ⟨e', b2, e⟩⟩
    · rw [e]; exact ih env2 b2 i
    · rw [e]; exact ih env2 b2 i
    · rw [e] at t ⊢; exact .inr t
    · rw [e] at t ⊢; exact .inr t
/-- a loop that always goes on -/
theorem for_go {I : List D → Ev → Bag → Prop} (h : ∀ x l env b, I (x :: l) env b → ∃ env1, g x env = some env1 ∧ ∃ env2 b2, (ms env1 b = .nx env2 b2 ∨ ms env1 b = .ct env2 b2) ∧ I l env2 b2) :
    ∀ ds env b, I ds env b → ∃ env' b', forL g ms ds env b = .nx env' b' ∧ I [] env' b' := by
  intro ds env b hb
  rcases for_inv (T := fun _ => False) (fun x l env b hb => by
    obtain ⟨env1, h1, h2⟩ := h x l env b hb
    exact ⟨env1, h1, .inl h2⟩) ds env b hb with h | h
  · exact h
  · exact h.elim
end
/-! ### kinds of data -/
inductive Pl : D → Prop
  | non : Pl .non
  | bl (k : Bool) : Pl (.bl k)
  | int (k : Int) : Pl (.int k)
  | str (k : Str) : Pl (.str k)
  | tup {ds : List D} (h : ∀ d ∈ ds, Pl d) : Pl (.tup ds)
  | lst {ds : List D} (h : ∀ d ∈ ds, Pl d) : Pl (.lst ds)
  | dK (ks : List Key) (ds : List D) : Pl (.dK ks ds)
def isTup : D → Bool
  | .tup _ => true
  | _ => false
def isLst : D → Bool
  | .lst _ => true
  | _ => false
def isBl : D → Bool
  | .bl _ => true
  | _ => false
def isStr : D → Bool
  | .str _ => true
  | _ => false
def isInB : D → Bool
  | .int _ => true
  | .bl _ => true
  | _ => false
/-- an int that is no flag -/
def intB : D → Bool
  | .int _ => true
  | _ => false
section
variable {d : D}
theorem isi_int (h : Pl d) : isiG "int" d = some (.bl (isInB d)) := by cases h <;> rfl
theorem isi_bool (h : Pl d) : isiG "bool" d = some (.bl (isBl d)) := by cases h <;> rfl
theorem isi_tuple (h : Pl d) : isiG "tuple" d = some (.bl (isTup d)) := by cases h <;> rfl
theorem isi_list (h : Pl d) : isiG "list" d = some (.bl (isLst d)) := by cases h <;> rfl
theorem isi_str (h : Pl d) : isiG "str" d = some (.bl (isStr d)) := by cases h <;> rfl
theorem isi_lt (h : Pl d) : isi2G "list" "tuple" d = some (.bl (isLst d || isTup d)) := by cases h <;> rfl
theorem isi_tl (h : Pl d) : isi2G "tuple" "list" d = some (.bl (isTup d || isLst d)) := by cases h <;> rfl
theorem of_tup (h : Pl d) (t : isTup d = true) : ∃ ds, d = .tup ds ∧ ∀ x ∈ ds, Pl x := by
  cases h <;> first | (cases t; done) | skip
  exact ⟨_, rfl, by assumption⟩
theorem of_int (t : intB d = true) : ∃ i, d = .int i := by
  cases d <;> first | (cases t; done) | skip
  exact ⟨_, rfl⟩
end
@[simp] theorem o_allM {ι : Type} {l : List ι} {f : ι → Bool} : allG [.lst (l.map fun x => .bl (f x))] = some (.bl (l.all f)) := by
  rw [show (l.map fun x => D.bl (f x)) = (l.map f).map D.bl by simp [Function.comp_def], o_all, List.all_map]
  rfl
@[simp] theorem o_anyM {ι : Type} {l : List ι} {f : ι → Bool} : anyG [.lst (l.map fun x => .bl (f x))] = some (.bl (l.any f)) := by
  rw [show (l.map fun x => D.bl (f x)) = (l.map f).map D.bl by simp [Function.comp_def], o_any, List.any_map]
  rfl
theorem eqv_int (p q : Int) : eqv (.int p) (.int q) = decide (p = q) := by
  rw [show eqv (.int p) (.int q) = (p == q) from rfl, Bool.eq_iff_iff]
  simp
@[simp] theorem o_neI {p q : Int} : neG (.int p) (.int q) = some (.bl (!decide (p = q))) := by
  unfold neG
  rw [if_pos ⟨ok_int, ok_int⟩, eqv_int]
@[simp] theorem o_neB {p q : Bool} : neG (.bl p) (.bl q) = some (.bl (p != q)) := by
  cases p <;> cases q <;> rfl
@[simp] theorem o_eqB {p q : Bool} : eqG (.bl p) (.bl q) = some (.bl (p == q)) := by
  cases p <;> cases q <;> rfl
theorem flat_ints (ns : List Int) : (ns.map D.int).all flatD = true := by
  induction ns with
  | nil => rfl
  | cons n ns ih => rw [List.map_cons, List.all_cons, ih]; rfl
theorem any_ints (ns : List Int) (p : Int) : ((ns.map D.int).any fun z => eqv z (.int p)) = ns.contains p := by
  induction ns with
  | nil => rfl
  | cons n ns ih =>
    rw [List.map_cons, List.any_cons, ih, eqv_int, List.contains_cons]
    congr 1
    rw [Bool.eq_iff_iff, decide_eq_true_iff, beq_iff_eq]
    exact ⟨Eq.symm, Eq.symm⟩
@[simp] theorem o_inL {neg : Bool} {p : Int} {ns : List Int} : inG neg (.int p) (.lst (ns.map D.int)) = some (.bl (neg ^^ ns.contains p)) := by
  show (if _ then _ else _) = _
  rw [if_pos ⟨rfl, flat_ints ns⟩, any_ints]
@[simp] theorem o_inT {neg : Bool} {p : Int} {ns : List Int} : inG neg (.int p) (.tup (ns.map D.int)) = some (.bl (neg ^^ ns.contains p)) := by
  show (if _ then _ else _) = _
  rw [if_pos ⟨rfl, flat_ints ns⟩, any_ints]
@[simp] theorem t_tt {ds : List D} : isiG "tuple" (.tup ds) = some (.bl true) := rfl
@[simp] theorem t_tl {ds : List D} : isiG "tuple" (.lst ds) = some (.bl false) := rfl
@[simp] theorem t_ti {i : Int} : isiG "tuple" (.int i) = some (.bl false) := rfl
@[simp] theorem t_tb {i : Bool} : isiG "tuple" (.bl i) = some (.bl false) := rfl
@[simp] theorem t_tn : isiG "tuple" .non = some (.bl false) := rfl
@[simp] theorem t_ts {i : Str} : isiG "tuple" (.str i) = some (.bl false) := rfl
@[simp] theorem t_ii {i : Int} : isiG "int" (.int i) = some (.bl true) := rfl
@[simp] theorem t_ib {i : Bool} : isiG "int" (.bl i) = some (.bl true) := rfl
@[simp] theorem t_in : isiG "int" .non = some (.bl false) := rfl
@[simp] theorem t_it {ds : List D} : isiG "int" (.tup ds) = some (.bl false) := rfl
@[simp] theorem t_il {ds : List D} : isiG "int" (.lst ds) = some (.bl false) := rfl
@[simp] theorem t_is {i : Str} : isiG "int" (.str i) = some (.bl false) := rfl
@[simp] theorem t_bi {i : Int} : isiG "bool" (.int i) = some (.bl false) := rfl
@[simp] theorem t_bb {i : Bool} : isiG "bool" (.bl i) = some (.bl true) := rfl
@[simp] theorem t_ltl {ds : List D} : isi2G "list" "tuple" (.lst ds) = some (.bl true) := rfl
@[simp] theorem t_ltt {ds : List D} : isi2G "list" "tuple" (.tup ds) = some (.bl true) := rfl
@[simp] theorem b_int {i : Int} : intB (.int i) = true := rfl
@[simp] theorem b_tup {ds : List D} : isTup (.tup ds) = true := rfl
@[simp] theorem b_lst {ds : List D} : isLst (.lst ds) = true := rfl
end Mr

set_option Elab.async false
set_option linter.all false
set_option maxRecDepth 100000
namespace Mr
open PySem PySem.Spec L2

/-! ### locking; items of a dict -/
theorem Stp.lock {c : MC} {b : Bag} {G H : Hp} (w : Wd c b G H) {d : Addr} {u : HO} (gd : G d = some u) (lu : lk u = true) (hd : H d = some u) (o : Obj) : Stp c G H G (upd H d (.frz o u)) ∧ Wd c b G (upd H d (.frz o u)) := by
  have nb := (w.notb gd).1
  have ng := (w.notb gd).2
  refine ⟨⟨Le.refl _, fun a v n m e => ?_, fun a h e => e, fun a h => ?_⟩, ⟨fun a v e => ?_, w.nz, w.gb, w.gg, w.ne, ?_, ?_, w.bz⟩⟩
  · by_cases z : a = d
    · subst z
      rw [hd] at e
      cases e
      exact .inr ⟨lu, gd, o, upd_same⟩
    · rw [upd_ne z]; exact .inl e
  · by_cases z : a = d
    · subst z; rw [upd_same]; exact fun z => nomatch z
    · rw [upd_ne z]; exact h
  · by_cases z : a = d
    · subst z
      rw [gd] at e
      cases e
      exact .inr ⟨lu, o, upd_same⟩
    · rw [upd_ne z]; exact w.sub a v e
  · rw [upd_ne (Ne.symm nb)]; exact w.hb
  · rw [upd_ne (Ne.symm ng)]; exact w.hg
/-- a dict is locked as it is read -/
def tLock (td : TE) : TE := fun σ H Q => td σ H fun x H1 => ∃ d kvs, x = .ref d ∧ ((∃ o, H1 d = some (.frz o (.dK kvs)) ∧ Q x H1) ∨ (H1 d = some (.dK kvs) ∧ ∀ o, Q x (upd H1 d (.frz o (.dK kvs)))))
theorem pe_lock {X : Cx} {e : Expr} {td : TE} (h : PE X e td) : PE X e (tLock td) := ⟨fun pins s σ H Q I hq => thn (h.run pins s σ H _ I hq) fun v s1 ⟨x, H1, I1, r, d, kvs, ex, q⟩ => by
  rcases q with ⟨o, hd, q⟩ | ⟨hd, q⟩
  · exact ⟨x, H1, I1, r, q⟩
  · obtain ⟨od, I2⟩ := Inv.lock I1 hd trivial
    exact ⟨x, _, I2, r, q od⟩⟩
def kD : Key → D
  | .inl i => .int i
  | .inr x => .str x
theorem kD_rep {c : MC} {G : Hp} (k : Key) : Rep c G (kD k) (kV k) := by cases k <;> rfl
def itemsD (ks : List Key) (ds : List D) : List D := List.zipWith (fun k d => .tup [kD k, d]) ks ds
def itK (d : D) (b : Bag) : R (List D) := match d with
  | .dK ks ds => .ok (itemsD ks ds) b
  | _ => .stuck
def mItems (m : ME) : MI := fun env b => (m env b).bind itK
theorem wlk_items {c : MC} {G H : Hp} {d : Addr} {o : Obj} {ks : List Key} {vs : List V} {ds : List D} (hd : H d = some (.frz o (.dK (ks.zip vs)))) (nb : d ≠ c.pb) (ng : d ≠ c.pg) (hl : ks.length = vs.length) (r : Reps c G ds vs) : WlkC c (Iti d o (ks.zip vs)) (itemsD ks ds) G H := fun i b G2 H2 s w => by
  have hd2 : H2 d = some (.frz o (.dK (ks.zip vs))) := by
    rcases s.h _ _ nb ng hd with z | ⟨z, _⟩
    · exact z
    · cases z
  have hlz : (ks.zip vs).length = ks.length := by rw [List.length_zip]; omega
  have hlr := r.len
  refine ⟨fun x hx => ?_, fun e => ⟨hd2, ?_⟩⟩
  · unfold itemsD at hx
    rw [List.getElem?_zipWith] at hx
    cases hk : ks[i]? with
    | none => rw [hk] at hx; cases hx
    | some k =>
      cases hv : ds[i]? with
      | none => rw [hk, hv] at hx; cases hx
      | some dv =>
        rw [hk, hv] at hx
        cases hx
        obtain ⟨v, hv2, rv⟩ := r.get hv
        have hz : (ks.zip vs)[i]? = some (k, v) := by rw [List.getElem?_zip_eq_some]; exact ⟨hk, hv2⟩
        refine ⟨⟨hd2, (List.getElem?_eq_some_iff.mp hz).1⟩, fun y H3 hy => ?_⟩
        obtain ⟨T, k', v', e1, rfl, nT, rfl⟩ := hy
        rw [hz] at e1
        cases e1
        obtain ⟨s2, w2⟩ := Stp.new (o := .tup [kV k, v]) w nT
        refine ⟨_, s2, w2, T, _, rfl, upd_same, ?_⟩
        exact .cons (kD_rep k) (.one ((rv.mono s.g _ _).mono s2.g _ _))
  · unfold itemsD at e
    rw [List.length_zipWith] at e
    omega
section
variable {X : Cx} {E : XK} {e a cc tg it elt : Expr} {es : List Expr} {ma mb mc : ME} {mr : MA} {pos apos cpos tpos : Pos}
theorem dic_items {elts : List Expr} {kk : Nat} (h : DE X E e ma) (hbase : attributeBase e "items" X.env (eval e X.env) = eval e X.env := by rfl) (hline : (apos.endLine == cpos.line) = true := by rfl) :
    DIc X E (.Tuple elts kk tpos) (.Call (.Attribute e "items" apos) [] [] cpos) (mItems ma) := PI.imp (pi_items (pe_lock h) hbase hline) fun σ H Rr ⟨pb, pg, H0, env, b, G, w, ev, q⟩ => by
  refine ⟨pb, pg, H0, env, b, G, w, ev, ?_⟩
  unfold mItems at q
  cases hm : ma env b with
  | stuck => rw [hm] at q; exact q
  | exc e b1 => rw [hm] at q; exact q
  | ok d b1 =>
    rw [hm] at q
    simp only [R.bind_ok] at q
    intro v G1 H1 s1 w1 p1
    cases d <;> first | exact q.elim | skip
    rename_i ks ds
    obtain ⟨p, vs, rfl, hp, hl, r⟩ := p1
    have nbg := w1.notb hp
    refine ⟨p, ks.zip vs, rfl, ?_⟩
    rcases w1.sub p _ hp with z | ⟨_, o, z⟩
    · refine .inr ⟨z, fun o => ?_⟩
      obtain ⟨s2, w2⟩ := Stp.lock w1 hp rfl z o
      exact ⟨p, o, ks.zip vs, rfl, upd_same, q _ G1 _ (s1.trans s2) w2 (wlk_items upd_same nbg.1 nbg.2 hl r)⟩
    · exact .inl ⟨o, z, p, o, ks.zip vs, rfl, z, q _ G1 H1 s1 w1 (wlk_items z nbg.1 nbg.2 hl r)⟩
/-- dict(d) -/
def dictG : List D → Option D
  | [.dK ks ds] => some (.dK ks ds)
  | _ => none
theorem call_dictG : CallF X (.type "dict") dictG := by
  intro pins s σ H xs us Q I r h
  obtain ⟨pb, pg, b, G, dxs, d, w, vx, e, q⟩ := h
  unfold dictG at e
  split at e
  · cases e
    rename_i ks ds
    obtain ⟨v, ws, rfl, r1, r2⟩ := vx
    cases (show ws = [] from r2)
    obtain ⟨p, vs, rfl, hp, hl, rr, _⟩ := r1
    exact call_dictD pins s σ H _ us Q I r ⟨p, _, rfl, hp, fun p2 np => by
      obtain ⟨s2, w2, g2⟩ := Stp.newO (o := .dK (ks.zip vs)) w np
      exact q _ _ _ s2 w2 ⟨p2, vs, rfl, upd_same, hl, g2, np, rr.mono s2.g⟩⟩
  · cases e
end
end Mr

set_option Elab.async false
set_option linter.all false
set_option maxRecDepth 100000
namespace Mr
open PySem PySem.Spec L2

/-! ### an own dict is written; an own list gives up its first -/
def setK (env : Ev) (i : Nat) (v : D) (k : D) (b : Bag) (ks : List Key) (ds : List D) : SO := match keyD k with
  | some k => if ks.length < 100000 then .nx (env.set i (.oK (putKs ks k) (putDs ks ds k v))) b else .stuck
  | none => .stuck
def dsetK (env : Ev) (i : Nat) (mk : ME) (v : D) (b : Bag) : Option Sl → SO
  | some (.oK ks ds) => (mk env b).so fun k b => setK env i v k b ks ds
  | _ => .stuck
def sDSet (i : Nat) (mk mv : ME) : MS := fun env b => (mv env b).so fun v b => dsetK env i mk v b env[i]?
def dropKs (ks : List Key) (k : Key) : List Key := ks.filter fun x => decide (x ≠ k)
def dropDs : List Key → List D → Key → List D
  | k' :: ks, d :: ds, k => if k' ≠ k then d :: dropDs ks ds k else dropDs ks ds k
  | _, _, _ => []
theorem drop_rep {c : MC} {G : Hp} (k : Key) : ∀ {ks : List Key} {ds : List D} {vs : List V}, Reps c G ds vs → ks.length = vs.length → ∃ vs', dropK (ks.zip vs) k = (dropKs ks k).zip vs' ∧ (dropKs ks k).length = vs'.length ∧ Reps c G (dropDs ks ds k) vs'
  | [], ds, vs, r, l => ⟨[], rfl, rfl, by unfold dropDs; exact .nil⟩
  | k' :: ks, [], vs, r, l => by
    cases (show vs = [] from r)
    simp at l
  | k' :: ks, d :: ds, vs, r, l => by
    obtain ⟨v, ws, rfl, r1, r2⟩ := r
    obtain ⟨vs', e1, e2, e3⟩ := drop_rep k r2 (by simpa using l)
    unfold dropDs
    by_cases h : k' ≠ k
    · have f1 : dropK ((k', v) :: ks.zip ws) k = (k', v) :: dropK (ks.zip ws) k := List.filter_cons_of_pos (decide_eq_true h)
      have f2 : dropKs (k' :: ks) k = k' :: dropKs ks k := List.filter_cons_of_pos (decide_eq_true h)
      refine ⟨v :: vs', ?_, ?_, ?_⟩
      · rw [List.zip_cons_cons, f1, f2, e1, List.zip_cons_cons]
      · rw [f2, List.length_cons, List.length_cons, e2]
      · rw [if_pos h]
        exact .cons r1 e3
    · have f1 : dropK ((k', v) :: ks.zip ws) k = dropK (ks.zip ws) k := List.filter_cons_of_neg (by simpa using h)
      have f2 : dropKs (k' :: ks) k = dropKs ks k := List.filter_cons_of_neg (by simpa using h)
      refine ⟨vs', ?_, ?_, ?_⟩
      · rw [List.zip_cons_cons, f1, f2, e1]
      · rw [f2, e2]
      · rw [if_neg h]
        exact e3
def popK (env : Ev) (i : Nat) (k : D) (b : Bag) (ks : List Key) (ds : List D) : SO := match keyD k with
  | some k => if (getK ks ds k).isSome = true then .nx (env.set i (.oK (dropKs ks k) (dropDs ks ds k))) b else .stuck
  | none => .stuck
def dpopK (env : Ev) (i : Nat) (mk : ME) (b : Bag) : Option Sl → SO
  | some (.oK ks ds) => (mk env b).so fun k b => popK env i k b ks ds
  | _ => .stuck
def sDPop (i : Nat) (mk : ME) : MS := fun env b => dpopK env i mk b env[i]?
def pop0K (g : MG) (env : Ev) (i : Nat) (b : Bag) : Option Sl → SO
  | some (.ol (d :: ds)) => asgK b (g d (env.set i (.ol ds)))
  | _ => .stuck
/-- tg = x.pop(0) -/
def sPop0 (i : Nat) (g : MG) : MS := fun env b => pop0K g env i b env[i]?
section
variable {c : MC} {b : Bag} {G H H0 : Hp} {env : Ev} {σ : L2.St}
theorem EvOk.oK (h : EvOk c H0 G H env σ) {i : Nat} {ks : List Key} {ds : List D} (e : env[i]? = some (.oK ks ds)) : ∃ p vs, σ[i]? = some (some (.ref p)) ∧ H p = some (.dK (ks.zip vs)) ∧ ks.length = vs.length ∧ G p = none ∧ H0 p = none ∧ Reps c G ds vs := by
  obtain ⟨v, ev, p, vs, rfl, q⟩ := h.at_ i _ e
  exact ⟨p, vs, ev, q⟩
theorem EvOk.putD (h : EvOk c H0 G H env σ) {i : Nat} {ks ks' : List Key} {ds : List D} {p : Addr} {vs' : List V} {ds' : List D} (e : env[i]? = some (.oK ks ds)) (e2 : σ[i]? = some (some (.ref p))) (gp : G p = none) (h0 : H0 p = none) (hl : ks'.length = vs'.length) (r : Reps c G ds' vs') :
    EvOk c H0 G (upd H p (.dK (ks'.zip vs'))) (env.set i (.oK ks' ds')) σ := h.put e rfl e2 h0 (s := .oK ks' ds') ⟨p, vs', rfl, upd_same, hl, gp, h0, r⟩ rfl
end
section
variable {X : Cx} {E : XK} {e tg it elt a a2 : Expr} {es : List Expr} {st : Stmt} {sts body : List Stmt} {ma mb me mk mv : ME} {mr : MA} {mi : MI} {mt : MT} {ms mu : MS} {g : MG} {gs : MGs} {pos p p2 apos cpos : Pos}
theorem readDSet {K : PySem.W.Frag} {mg : Str → Option Value} {Dn : Ends} {σ : L2.St} {H : Hp} {i : Nat} (h : tS K mg E (sDSet i mk mv) Dn σ H) : tAsg (tM K mg E mv) (gSub (tVar i) (tM K mg E mk) rSetD) Dn σ H := by
  obtain ⟨pb, pg, G0, H0, env, b, G, st, w, ev, q⟩ := h
  refine ⟨pb, pg, H0, env, b, G, w, ev, PstS.bind st q fun a1 b1 v1 G1 H1 s1 w1 p1 q1 => ?_⟩
  unfold dsetK at q1
  split at q1
  · rename_i ks ds he
    have ev1 := ev.step s1
    obtain ⟨p, vs, e2, hp, hl, gp, h0, rr⟩ := ev1.oK he
    refine ⟨.ref p, e2, pb, pg, H0, env, b1, G1, w1, ev1, PstS.bind (st.trans s1) q1 fun a2 b2 v2 G2 H2 s2 w2 p2 q2 => ?_⟩
    have ev2 := ev1.step s2
    obtain ⟨p', vs2, e2', hp2, hl2, gp2, h02, rr2⟩ := ev2.oK he
    rw [e2] at e2'
    cases e2'
    unfold setK at q2
    split at q2
    · rename_i k hk
      split at q2
      · rename_i hz
        have ek := rep_key p2 hk
        subst ek
        obtain ⟨ws, z1, z2, z3⟩ := zip_put (k := k) rr2 hl2 (p1.mono s2.g _ _)
        refine ⟨p, _, rfl, DPut.k hp2 (sz_lt (by rw [List.length_zip]; omega)), ?_⟩
        rw [z1]
        exact q2 σ G2 _ (((st.trans s1).trans s2).put h02) (w2.put gp2 (ne_h0 ev2.bb h02) (ne_h0 ev2.bg h02)) (ev2.putD he e2 gp2 h02 z2 z3)
      · exact q2.elim
    · exact q2.elim
  · exact q1.elim
/-- x[k] = v, x a dict of this frame's alone -/
theorem ds_dset (i : Nat) {x : Str} {xp : Pos} (hu : X.A.units + 65 < cLine) (hk : DE X E a mk) (hv : DE X E e mv) (hN : X.N[i]? = some x := by rfl) (hvis : Vis X.env.scope x := by first | exact Or.inl rfl | exact Or.inr (Or.inl rfl) | exact Or.inr (Or.inr rfl)) (hd : (x == ("__debug__" : Str)) = false := by decide) (hcd : (x == ("__classdict__" : Str)) = false := by decide)
    (hs : swapsWithSole [.Subscript (.Name x xp) a p] e pos.line X.env = pure false := by rfl) (hw : swappedStores [.Subscript (.Name x xp) a p] e X.env = pure none := by rfl)
    (ha : ∀ v, assign (.Subscript (.Name x xp) a p) X.env v = (do
      let ov ← holding [v] (eval (.Name x xp) X.env)
      let iv ← holding [v, ov] (eval a X.env)
      standAt p
      holding [v, ov, iv] (setItem ov iv v)
      release [v, ov, iv] []) := by intro _; rfl) : DS X E (.Assign [.Subscript (.Name x xp) a p] e pos) (sDSet i mk mv) :=
  PS.imp (ps_asg hv (pg_sub (pe_var hN hvis hd hcd) hk (set_dict (by omega)) ha) hs hw) fun _ _ _ h => readDSet h
theorem readDPop {K : PySem.W.Frag} {mg : Str → Option Value} {Dn : Ends} {σ : L2.St} {H : Hp} {i : Nat} (h : tS K mg E (sDPop i mk) Dn σ H) : tDrop (tDPop1 (tVar i) (tM K mg E mk)) Dn σ H := by
  obtain ⟨pb, pg, G0, H0, env, b, G, st, w, ev, q⟩ := h
  unfold sDPop dpopK at q
  split at q
  · rename_i ks ds he
    obtain ⟨p, vs, e2, hp, hl, gp, h0, rr⟩ := ev.oK he
    refine ⟨.ref p, e2, p, rfl, .inl ⟨_, .inl hp⟩, pb, pg, H0, env, b, G, w, ev, PstS.bind st q fun a2 b2 v2 G2 H2 s2 w2 p2 q2 => ?_⟩
    have ev2 := ev.step s2
    obtain ⟨p', vs2, e2', hp2, hl2, gp2, h02, rr2⟩ := ev2.oK he
    rw [e2] at e2'
    cases e2'
    unfold popK at q2
    split at q2
    · rename_i k hk
      split at q2
      · rename_i hz
        have ek := rep_key p2 hk
        subst ek
        obtain ⟨d, hd⟩ := Option.isSome_iff_exists.mp hz
        obtain ⟨v, hv, _⟩ := (getK_rep k rr2 hl2).1 d hd
        obtain ⟨ws, z1, z2, z3⟩ := drop_rep k rr2 hl2
        refine ⟨ks.zip vs2, k, v, hp2, rfl, hv, ?_⟩
        rw [z1]
        exact q2 σ G2 _ ((st.trans s2).put h02) (w2.put gp2 (ne_h0 ev2.bb h02) (ne_h0 ev2.bg h02)) (ev2.putD he e2 gp2 h02 z2 z3)
      · exact q2.elim
    · exact q2.elim
  · exact q.elim
/-- x.pop(k), x a dict of this frame's alone that has k -/
theorem ds_dpop (i : Nat) {x : Str} {xp : Pos} (hk : DE X E a mk) (m : M1 X (.Name x xp) "pop" apos a cpos := by exact ⟨rfl, rfl, rfl, rfl⟩) (hN : X.N[i]? = some x := by rfl) (hvis : Vis X.env.scope x := by first | exact Or.inl rfl | exact Or.inr (Or.inl rfl) | exact Or.inr (Or.inr rfl)) (hd : (x == ("__debug__" : Str)) = false := by decide) (hcd : (x == ("__classdict__" : Str)) = false := by decide)
    (hs : swapsWith (.Call (.Attribute (.Name x xp) "pop" apos) [a] [] cpos) none pos.line X.env = pure false := by rfl) : DS X E (.Expr (.Call (.Attribute (.Name x xp) "pop" apos) [a] [] cpos) pos) (sDPop i mk) :=
  PS.imp (ps_expr (pe_dpop1 (pe_var hN hvis hd hcd) hk m) hs) fun _ _ _ h => readDPop h
theorem readPop0 {K : PySem.W.Frag} {mg : Str → Option Value} {Dn : Ends} {σ : L2.St} {H : Hp} {i : Nat} (h : tS K mg E (sPop0 i g) Dn σ H) : tAsg (tBM K "list" rPopAt (tVar i) (tCons (tC (.int 0)) tNil)) (tG K mg g) Dn σ H := by
  obtain ⟨pb, pg, G0, H0, env, b, G, st, w, ev, q⟩ := h
  unfold sPop0 pop0K at q
  split at q
  · rename_i d ds he
    obtain ⟨p, vs, e2, hp, gp, h0, rr⟩ := ev.ol he
    obtain ⟨v, ws, rfl, r1, r2⟩ := rr
    refine ⟨.ref p, e2, .inl ⟨rfl, _, .inl (.inl hp)⟩, p, v :: ws, 0, 0, v, rfl, rfl, hp, by decide, by decide, by simp [seqIndex?], rfl, ?_⟩
    cases hg : g d (env.set i (.ol ds)) with
    | none => rw [hg] at q; exact q.elim
    | some env' =>
      rw [hg] at q
      have ev2 := ev.putL (vs := v :: ws) he e2 gp h0 r2
      have w2 : Wd (cx K mg pb pg) b G (upd H p (.lst ws)) := w.put gp (ne_h0 ev.bb h0) (ne_h0 ev.bg h0)
      exact ⟨pb, pg, H0, _, b, G, d, env', w2, ev2, r1, hg, fun σ' ev' => q σ' G _ (st.put h0) w2 ev'⟩
  · exact q.elim
theorem ds_pop0 (i : Nat) {x : Str} {xp : Pos} {k : Nat} (hg : DG X tg g) (hN : X.N[i]? = some x := by rfl) (hvis : Vis X.env.scope x := by first | exact Or.inl rfl | exact Or.inr (Or.inl rfl) | exact Or.inr (Or.inr rfl)) (hd : (x == ("__debug__" : Str)) = false := by decide) (hcd : (x == ("__classdict__" : Str)) = false := by decide)
    (hs : swapsWithSole [tg] (.Call (.Attribute (.Name x xp) "pop" apos) [.Constant (.int 0) k p2] [] cpos) pos.line X.env = pure false := by rfl) (hw : swappedStores [tg] (.Call (.Attribute (.Name x xp) "pop" apos) [.Constant (.int 0) k p2] [] cpos) X.env = pure none := by rfl)
    (hbase : attributeBase (.Name x xp) "pop" X.env (eval (.Name x xp) X.env) = eval (.Name x xp) X.env := by rfl)
    (hfew : ((backTo cpos (starEach [.Constant (.int 0) k p2] X.env)).all (fun x => !x.1) && (backToKw cpos (keywordEach [] X.env)).all (fun x => x.1.isSome)
      && decide (([.Constant (.int 0) k p2] : List Expr).length + ([] : List Keyword).length + (if ([] : List Keyword).isEmpty then 0 else 1) < 30)) = true := by rfl)
    (hline : (apos.endLine == cpos.line) = true := by rfl) (hq : (assignEach [tg] X.env).map (·.2) = [assign tg X.env] := by rfl) : DS X E (.Assign [tg] (.Call (.Attribute (.Name x xp) "pop" apos) [.Constant (.int 0) k p2] [] cpos) pos) (sPop0 i g) :=
  PS.imp (ps_asg (pe_bm PySem.F.plainAttrs_list PySem.F.slot_list_pop PySem.F.type_list_pop mt_popAt (pe_var hN hvis hd hcd) (pa_cons pe_int pa_nil) hbase hfew hline) hg hs hw hq) fun _ _ _ h => readPop0 h
end
end Mr

set_option Elab.async false
set_option linter.all false
set_option maxRecDepth 100000
namespace Mr
open PySem PySem.Spec L2
section
variable {P : Program} {w : World} {K : PySem.W.Frag} {mg : Str → Option Value} {base : Heap} {x : Str} {st : Stmt} {N ps : List Str} {k n : Nat}
theorem spM0_stuck {vs : List V} {H : Hp} {Q : VK} {E : XK} (h : spM0 K mg n (fun _ _ => .stuck) vs H Q E) : False := by
  obtain ⟨pb, pg, G, b, ds, w, r, hl, q⟩ := h
  exact q
/-- a def of which nothing is promised -/
theorem fn_stuck0 (dd : DefAt K mg x st ps) (S : FnScope N ps (defScope st)) (hk : 1 ≤ k := by decide) : F0 P w K mg base x k n (fun _ _ => .stuck) := by
  obtain ⟨f, fd, F, hm, hb⟩ := dd
  obtain ⟨j, rfl⟩ : ∃ j, k = j + 1 := ⟨k - 1, by omega⟩
  exact ⟨f, fd, ps, hm, F.kp, hb, F.ok S (fun vs H Q E h => (spM0_stuck h).elim) fun cdv A outer s H vs Q E hr h => (spM0_stuck h).elim⟩
end
end Mr

set_option Elab.async false
set_option linter.all false
set_option maxRecDepth 100000
namespace Mr
open PySem PySem.Spec L2
section
variable {X : Cx} {E : XK} {kx vx tg it : Expr} {me mk : ME} {mi : MI} {g : MG} {mt : MT} {pos : Pos}
theorem swD {kx vx : Expr} {gs : List Comprehension} {sc : Scope} {pos py : Pos} {y : Str} {l : Nat} {env : Env} (h1 : env.scope.kind = .function) (h2 : env.scope.names.lookup y = some .local) (h3 : (py.line == pos.line) = true)
    (h4 : (sc.names.any fun (n, k) => n == y && (k == .local || k == .cell)) = false) : swapsWith (.DictComp kx vx gs sc pos) (some (.Name y py)) l env = pure true := by
  have b1 : env.blockKind = .function := by
    unfold Env.blockKind
    rw [h1]; rfl
  have b2 : env.kindOf y = some .local := h2
  unfold swapsWith
  simp only [b1, b2, h4, h3, Expr.pos]; rfl
/-- y = {k: v for ..} on one line, y a plain local -/
theorem ps_setDm {i : Nat} {y : Str} {py spos : Pos} {ifs : List Expr} {scope : Scope} {own : List (Str × Nat)} {wi : TI} {tgm : TG} {tt : TT} {tk tv : TE} (hc : X.calm = true) (hN : X.N.Nodup) (hi : PI X tg it wi) (ok : BlkOk X.N X.env.scope scope own)
    (hg : ∀ (s : Shared) (H : Hp) (C : Addr) (cl : List (Str × Addr)) (fp : List Addr), PG (X.blk s H scope (compEnvC scope cl C X.env) fp) tg tgm) (ht : ∀ (s : Shared) (H : Hp) (C : Addr) (cl : List (Str × Addr)) (fp : List Addr), PTs (X.blk s H scope (compEnvC scope cl C X.env) fp) ifs tt)
    (hk : ∀ (s : Shared) (H : Hp) (C : Addr) (cl : List (Str × Addr)) (fp : List Addr), PE (X.blk s H scope (compEnvC scope cl C X.env) fp) kx tk) (he : ∀ (s : Shared) (H : Hp) (C : Addr) (cl : List (Str × Addr)) (fp : List Addr), PE (X.blk s H scope (compEnvC scope cl C X.env) fp) vx tv)
    (hy : X.N[i]? = some y) (hyl : X.env.scope.names.lookup y = some .local) (hsw : swapsWith (.DictComp kx vx [⟨tg, it, ifs, 0⟩] scope pos) (some (.Name y py)) spos.line X.env = pure true) (hs : ∀ x, foldedSetIterable it X.env x = pure x) :
    PS X (.Assign [.Name y py] (.DictComp kx vx [⟨tg, it, ifs, 0⟩] scope pos) spos) (tAsg (tDc wi tgm tt tk tv (own.map (·.2))) (gName i)) := by
  constructor
  intro pins s σ H D I hh
  rw [exec_Assign_Name_used _ _ _ _ hsw]
  refine wpAny_bind (wpAny_standAt (wpAny_bind ?_))
  show wpAny _ X.A (do
    let _ ← comprehension (.DictComp kx vx [⟨tg, it, ifs, 0⟩] scope pos) scope X.env (firstIterPos [⟨tg, it, ifs, 0⟩] pos) newDict false (eval it X.env) (some (assign (.Name y py) X.env))) _ _ s
  have h0 : tDc wi tgm tt tk tv (own.map (·.2)) σ H (fun x H1 => gName i x σ H1 D.nx) := hh
  refine wpAny_bind (thn (dc_core (Qf := fun _ s' => SP X pins D .next s') hc hN I hi ok hg ht hk he hs h0 (fun L C s2 m H2 I2 q hn f => ?_)) (fun _ s2 hq => wpAny_pure (wpAny_pure hq)))
  obtain ⟨g0, g1, g2, g3, g4, g5⟩ := f
  show wpAny _ _ (assign (.Name y py) X.env (.ref L)) _ _ _
  refine wpAny_assign_Name (store_ok2 (v := V.ref L) I2 hN hy (.inl hyl) rfl (fun s4 I4 z => ?_) (.inr hyl))
  obtain ⟨a, sb, ha⟩ := z
  have hne : C ≠ a := by
    intro e
    rcases ha with z | z
    · exact g1 (e.trans z)
    · exact g4 y a z e.symm
  exact ⟨m, hn.sameBut sb hne, fun h3 sb3 => ⟨_, H2, I4.turned (t' := s4.toks) (fun b o hb e => (sb3.2 b hb).trans e) g0 g1 g3 g4 g5, q⟩⟩
theorem ds_dcM (i : Nat) {y : Str} {py spos : Pos} {ifs : List Expr} {scope : Scope} {own : List (Str × Nat)} (hc : X.calm = true) (hN : X.N.Nodup) (hi : DIc X E tg it mi) (ok : BlkOk X.N X.env.scope scope own)
    (hg : ∀ (s : Shared) (H : Hp) (C : Addr) (cl : List (Str × Addr)) (fp : List Addr), DGc (X.blk s H scope (compEnvC scope cl C X.env) fp) (own.map (·.2)) tg g) (ht : ∀ (s : Shared) (H : Hp) (C : Addr) (cl : List (Str × Addr)) (fp : List Addr), DTs (X.blk s H scope (compEnvC scope cl C X.env) fp) E0 ifs mt)
    (hk : ∀ (s : Shared) (H : Hp) (C : Addr) (cl : List (Str × Addr)) (fp : List Addr), DE (X.blk s H scope (compEnvC scope cl C X.env) fp) E0 kx mk) (he : ∀ (s : Shared) (H : Hp) (C : Addr) (cl : List (Str × Addr)) (fp : List Addr), DE (X.blk s H scope (compEnvC scope cl C X.env) fp) E0 vx me)
    (hy : X.N[i]? = some y := by rfl) (hyl : X.env.scope.names.lookup y = some .local := by rfl) (hsw : swapsWith (.DictComp kx vx [⟨tg, it, ifs, 0⟩] scope pos) (some (.Name y py)) spos.line X.env = pure true := by exact swD rfl rfl rfl (by decide +kernel)) (hs : ∀ x, foldedSetIterable it X.env x = pure x := by intro _; rfl) :
    DS X E (.Assign [.Name y py] (.DictComp kx vx [⟨tg, it, ifs, 0⟩] scope pos) spos) (sAsg (gNm i) (mDc mi g mt mk me (own.map (·.2)))) :=
  PS.imp (ps_setDm hc hN hi ok hg ht hk he hy hyl hsw hs) fun Dn σ H h => readDc (readAsgF h)
end
end Mr

set_option Elab.async false
set_option linter.all false
set_option maxRecDepth 100000
namespace Mr
open PySem PySem.Spec L2
/-! ### enumerate of a tuple -/
set_option maxHeartbeats 1000000 in
theorem enumNew {v : Value} {o : Obj} {Hh : Heap → Prop} (B : Begins v o Hh) : Meets (Builtin.«enumerate.__new__» ⟨[.type "enumerate", v], []⟩) (fun _ R s => Hh s.heap ∧
    R (.ok (.ret (.ref (s.heap.push o).objs.size))) { s with heap := (s.heap.push o).push { cls := .type "enumerate", data := .fields #[.none, .bool false, .ref s.heap.objs.size, rawInt 0, .none, .none] } }) := .of_wp fun prog w A R s h => by
  obtain ⟨hp, g, d, tk, os⟩ := s
  obtain ⟨a1, a2⟩ := h
  have hsb := sub_enumerate
  have it1 : ∀ {A' : Around} {E' : Value → Shared → Prop} {Q' : Value → Shared → Prop}, Q' (.ref hp.objs.size) ⟨hp.push o, g, d, tk, os⟩ → wpAny (model prog w) A' (pyIter v) Q' E' ⟨hp, g, d, tk, os⟩ := fun {A'} {E'} {Q'} q => B.iter prog w A' E' ⟨hp, g, d, tk, os⟩ Q' a1 q
  wp_walk using it1
  refine wpAny_stack_any fun st => wpAny_pure ?_
  split
  · rename_i c _ _ _ _ _
    cases (c == Value.type "enumerate") <;> (wp_walk using it1; exact ⟨_, rfl, a2⟩)
  · wp_walk using it1; exact ⟨_, rfl, a2⟩
theorem enumCall {prog : Program} {w : World} {A : Around} {E : Value → Shared → Prop} {s : Shared} {v : Value} {o : Obj} {Hh : Heap → Prop} {Q : Value → Shared → Prop} (B : Begins v o Hh) (h1 : Hh s.heap)
    (h : ∀ h', IsEnum h' (s.heap.objs.size + 1) s.heap.objs.size 0 .none → h'.get? s.heap.objs.size = some o → (∀ b ob, s.heap.get? b = some ob → h'.get? b = some ob) → Q (.ref (s.heap.objs.size + 1)) { s with heap := h' }) :
    wpAny (model prog w) A (call (.type "enumerate") [v]) Q E s := by
  have hz : (s.heap.push o).objs.size = s.heap.objs.size + 1 := Heap.size_push ..
  have he : IsEnum ((s.heap.push o).push { cls := .type "enumerate", data := .fields #[.none, .bool false, .ref s.heap.objs.size, rawInt 0, .none, .none] }) (s.heap.objs.size + 1) s.heap.objs.size 0 .none := by
    have z := Heap.get?_push_size (s.heap.push o) (o := { cls := .type "enumerate", data := .fields #[.none, .bool false, .ref s.heap.objs.size, rawInt 0, .none, .none] }) rfl
    rw [hz] at z; exact z
  refine callType_new F.called_enumerate (by decide) (F.typeCall_enumerate_1 _) (F.newCall_enumerate_1 _) (fun ob => F.args_object_init_2 ob _) F.entry_enumerate_new (enumNew B) ⟨h1, ?_⟩
  rw [hz]
  show _ ∧ _
  exact ⟨⟨_, he, rfl⟩, h _ he (Heap.get?_push_of_some _ (Heap.get?_push_size _ B.free)) fun b ob x => Heap.get?_push_of_some _ (Heap.get?_push_of_some _ x)⟩
def IteT (K : PySem.W.Frag) (a : Addr) : It :=
  ⟨fun i H => ∃ (xs : List V) (x : V), SqT K H a xs ∧ xs[i]? = some x,
   fun i H v H' => ∃ T x, v = .ref T ∧ H T = none ∧ H' = upd H T (.tup [.int (i : Nat), x]) ∧ ∀ xs, SqT K H a xs → xs[i]? = some x,
   fun i H => ∃ xs : List V, SqT K H a xs ∧ xs.length = i⟩
theorem turn_enumT {P : Program} {w : World} {K : PySem.W.Frag} {elts : List Expr} {kk : Nat} {tpos : Pos} (a e it : Addr) :
    Turn P w K (.Tuple elts kk tpos) (IteT K a) [e, it] e (fun i h => (∃ old, IsEnum h e it (i : Nat) old) ∧ h.IsTupleIter it a i ∧ e ≠ it) where
  mem := by simp
  obj := fun i h st b hb => by
    obtain ⟨⟨old, he⟩, ⟨o, ho, hc, hd⟩, _⟩ := st
    rcases (show b = e ∨ b = it by simpa using hb) with z | z
    · have g2 : h.get? e = _ := he
      refine ⟨_, by rw [z]; exact g2, fun v q => ?_⟩
      cases q
    · exact ⟨o, by rw [z]; exact ho, fun v q => by rw [hd] at q; cases q⟩
  keep := fun i h h' ⟨⟨old, he⟩, hi, hne⟩ k => ⟨⟨old, k e (by simp) _ he⟩, hi.at fun o q => k it (by simp) o q, hne⟩
  item := by
    intro X hP hw hK hc i pins s σ H E I hf st hg
    subst hP hw hK
    obtain ⟨⟨old, he⟩, hit, hne⟩ := st
    obtain ⟨xs, x, hq, hx⟩ := hg
    obtain ⟨its, rv, p, hz⟩ := I.tuple hq
    obtain ⟨u, hu, ru⟩ := rv.get hx
    have pT : s.heap.IsTuple a its.toArray := p
    have hai : a ≠ it := fun z => by
      obtain ⟨o1, g1, c1, _⟩ := pT
      obtain ⟨o2, g2, c2, _⟩ := hit
      rw [z, g2] at g1
      cases g1
      rw [c2] at c1
      simp at c1
    have hae : e ≠ a := fun z => by
      obtain ⟨o1, g1, c1, _⟩ := pT
      rw [← z] at g1
      have g2 : s.heap.get? e = _ := he
      rw [g2] at g1
      cases g1
      simp at c1
    have D := Draws.tuple (prog := X.prog) (w := X.w) (A := X.A.in1) (I.ok.hd hc) it a hai its.toArray
    have hel : e < s.heap.objs.size := Heap.lt_size he
    have hil : it < s.heap.objs.size := by obtain ⟨_, q, _⟩ := hit; exact Heap.lt_size q
    have hi : i < its.toArray.size := by
      have := (List.getElem?_eq_some_iff.mp hu).1
      simpa using this
    refine wpAny_pyNext_enum_itemC D he ⟨hit, pT⟩ hi hne (by simp [hne, hae]) fun y h1 tk py ho st1 hT hsz hk => ⟨_, rfl, ?_⟩
    have ey : y = u := by
      have : its[i]? = some y := by simpa using py
      rw [hu] at this
      exact (Option.some.inj this).symm
    subst ey
    refine wpAny_letOwnedTupleGo_enum (s := { s with heap := h1, toks := tk + 1 }) ho fun h2 he2 sb => ?_
    have hT2 := (sb.2 _ (Nat.ne_of_gt hel)).trans hT
    have nw : ObjOk X.prog X.w (upd H s.heap.objs.size (.tup [.int (i : Nat), x])) h2 s.heap.objs.size (.tup [.int (i : Nat), x]) :=
      ⟨by show 2 ≤ sizeLine; decide, _, .cons ⟨_, rfl⟩ (.cons ru .nil), ⟨_, hT2, rfl, _, rfl⟩⟩
    have I1 : Inv X pins σ (upd H s.heap.objs.size (.tup [.int (i : Nat), x])) { s with heap := h2, toks := tk + 1 } :=
      Inv.turnedNew I (ch := [e, it]) (fun b ob hb q => (sb.2 b (fun z => hb (by simp [z]))).trans (hk b ob (fun z => hb (by simp [z])) (fun z => hb (by simp [z])) q)) hf (Nat.le_refl _) nw
    refine ⟨.ref s.heap.objs.size, _, I1, rfl, ⟨_, x, rfl, I.hok.fresh (Nat.le_refl _), rfl, fun ys hy => by rw [I.tuple_inj hy hq]; exact hx⟩, ⟨⟨y, ?_⟩, st1.1.at fun o q => (sb.2 it (Ne.symm hne)).trans q, hne⟩, fun b hb => ?_⟩
    · rw [show ((i + 1 : Nat) : Int) = (i : Int) + 1 by omega]
      exact he2
    · have hb' : b < s.heap.objs.size := by
        rcases (show b = e ∨ b = it by simpa using hb) with z | z <;> rw [z] <;> assumption
      rw [upd_ne (Nat.ne_of_lt hb')]
      exact (hf b hb).1
  done := by
    intro X hP hw hK hc i pins s σ H E I hf st hg
    subst hP hw hK
    obtain ⟨⟨old, he⟩, hit, hne⟩ := st
    obtain ⟨xs, hq, hx⟩ := hg
    obtain ⟨its, rv, p, hz⟩ := I.tuple hq
    have pT : s.heap.IsTuple a its.toArray := p
    have hai : a ≠ it := fun z => by
      obtain ⟨o1, g1, c1, _⟩ := pT
      obtain ⟨o2, g2, c2, _⟩ := hit
      rw [z, g2] at g1
      cases g1
      rw [c2] at c1
      simp at c1
    have D := Draws.tuple (prog := X.prog) (w := X.w) (A := X.A.in1) (I.ok.hd hc) it a hai its.toArray
    have hn : i = its.toArray.size := by
      have := rv.length
      simp
      omega
    subst hn
    obtain ⟨f0, f1, f2, f3, f4, f5⟩ := hf it (by simp)
    exact wpAny_pyNext_enum_endD D he ⟨hit, pT⟩ fun h' eb => ⟨rfl, I.turned (t' := s.toks) (fun b o hb q => eb b o hb q) f0 f1 f3 f4 f5⟩
  self := fun A i s Q E ⟨⟨_, he⟩, _⟩ h => wpAny_pyIter_enum he h
def iEnumT (K : PySem.W.Frag) (ta : TA) : TI := fun σ H R => ta σ H fun vs H1 => ∃ a xs, vs = [.ref a] ∧ SqT K H1 a xs ∧ R (IteT K a) H1
theorem pi_enumT {X : Cx} {e : Expr} {ta : TA} {p pos tpos : Pos} {elts : List Expr} {kk : Nat} (hg : Gl X "enumerate") (hm : X.mg "enumerate" = none) (ha : PA X [e] ta) (hs : starEach [e] X.env = [(false, eval e X.env)] := by rfl) :
    PI X (.Tuple elts kk tpos) (.Call (.Name "enumerate" p) [e] [] pos) (iEnumT X.K ta) := by
  constructor
  intro pins s σ H R I h
  refine PyProof.Rows.Call_ (ld_blt I hg hm PyProof.Rows.boot_enumerate (PyProof.Rows.callWith_type1 (thn (ha.run pos pins s σ H _ I h) fun us s1 ⟨vs, H1, I1, r1, a, xs, ex, hq, q⟩ => ?_) hs rfl))
  subst ex
  obtain rfl := Vals.ref1 r1
  obtain ⟨its, rv, p', hz⟩ := I1.tuple hq
  refine enumCall (begins_tuple a its.toArray) p' fun h' he hit hk => wpAny_pyIter_enum he ?_
  have I2 : Inv X pins σ H1 { s1 with heap := h' } := I1.kept (t' := s1.toks) hk
  refine ⟨s1.heap.objs.size + 1, [s1.heap.objs.size + 1, s1.heap.objs.size], _, _, H1, rfl, I2, turn_enumT a (s1.heap.objs.size + 1) s1.heap.objs.size, ⟨⟨.none, he⟩, ⟨_, hit, rfl, rfl⟩, Nat.succ_ne_self _⟩, fun b hb => ?_, q⟩
  have hle : s1.heap.objs.size ≤ b := by
    rcases (show b = s1.heap.objs.size + 1 ∨ b = s1.heap.objs.size by simpa using hb) with z | z <;> rw [z] <;> omega
  exact I1.fpOk hle (I1.hok.fresh hle)
/-! items of an enumerated list, tuple -/
theorem wlk_enumT {c : MC} {G : Hp} {ds : List D} {p : Addr} {vs : List V} (hp : ∀ (b : Bag) (G2 H2 : Hp), Le G G2 → Wd c b G2 H2 → SqT c.K H2 p vs) (r : Reps c G ds vs) : WlkS c (IteT c.K p) (enumD 0 ds) G := fun i b G2 H2 le w => by
  have hs := hp b G2 H2 le w
  refine ⟨fun d hd => ?_, fun e => ⟨vs, hs, by rw [← r.len, e, enumD_len]⟩⟩
  rw [enumD_get] at hd
  simp only [Option.map_eq_some_iff] at hd
  obtain ⟨d', hd', rfl⟩ := hd
  obtain ⟨v, hv, rv⟩ := r.get hd'
  refine ⟨⟨vs, v, hs, hv⟩, fun x H3 hy => ?_⟩
  obtain ⟨T, y, rfl, nT, rfl, e2⟩ := hy
  have e2 := e2 vs hs
  rw [hv] at e2
  cases e2
  obtain ⟨s2, w2⟩ := Stp.new (o := .tup [.int (i : Nat), v]) w nT
  refine ⟨_, s2, w2, T, _, rfl, upd_same, ?_⟩
  rw [Nat.zero_add]
  exact .cons rfl (.one ((rv.mono le _ _).mono s2.g _ _))
def enAK (d : D) (b : Bag) : R (List D) := match d with
  | .lst ds => .ok (enumD 0 ds) b
  | .tup ds => .ok (enumD 0 ds) b
  | _ => .stuck
def mEnumA (m : ME) : MI := fun env b => (m env b).bind enAK
section
variable {X : Cx} {E : XK} {e : Expr} {ma : ME} {pos p tpos : Pos}
theorem di_enumA {elts : List Expr} {kk : Nat} (hg : Gl X "enumerate") (hm : X.mg "enumerate" = none) (h : DE X E e ma) (h1 : starEach [e] X.env = (false, eval e X.env) :: starEach [] X.env := by rfl) (hs : starEach [e] X.env = [(false, eval e X.env)] := by rfl) :
    DI X E (.Tuple elts kk tpos) (.Call (.Name "enumerate" p) [e] [] pos) (mEnumA ma) :=
  PI.imp (PI.or (pi_enum hg hm (pa_cons h pa_nil h1) hs) (pi_enumT hg hm (pa_cons h pa_nil h1) hs)) fun σ H Rr ⟨pb, pg, H0, env, b, G, w, ev, q⟩ => by
    unfold mEnumA at q
    cases hm : ma env b with
    | stuck => rw [hm] at q; exact q.elim
    | exc e b1 => exact .inl (pa1 ⟨pb, pg, H0, env, b, G, w, ev, by rw [hm] at q ⊢; exact q⟩)
    | ok d b1 =>
      rw [hm] at q
      simp only [R.bind_ok] at q
      cases d <;> first | exact q.elim | skip
      · refine .inr (pa1 ⟨pb, pg, H0, env, b, G, w, ev, ?_⟩)
        rw [hm]
        intro v G' H' s w' p
        obtain ⟨a, vs, rfl, hp, r⟩ := p
        exact ⟨a, vs, rfl, .inl (.inl (w'.tup hp)), q _ G' H' s w' (wlk_enumT (fun b G2 H2 le w2 => .inl (.inl (w2.tup (le _ _ hp)))) r)⟩
      · refine .inl (pa1 ⟨pb, pg, H0, env, b, G, w, ev, ?_⟩)
        rw [hm]
        intro v G' H' s w' p
        obtain ⟨a, vs, rfl, hp, r⟩ := p
        exact ⟨a, vs, rfl, .inl (w'.rd hp), q _ G' H' s w' (wlk_enum hp r)⟩
theorem dic_enumA {elts : List Expr} {kk : Nat} (hg : Gl X "enumerate") (hm : X.mg "enumerate" = none) (h : DV X E e ma) (h1 : starEach [e] X.env = (false, eval e X.env) :: starEach [] X.env := by rfl) (hs : starEach [e] X.env = [(false, eval e X.env)] := by rfl) :
    DIc X E (.Tuple elts kk tpos) (.Call (.Name "enumerate" p) [e] [] pos) (mEnumA ma) :=
  PI.imp (PI.or (pi_enum hg hm (pa_cons h pa_nil h1) hs) (pi_enumT hg hm (pa_cons h pa_nil h1) hs)) fun σ H Rr ⟨pb, pg, H0, env, b, G, w, ev, q⟩ => by
    unfold mEnumA at q
    cases hm : ma env b with
    | stuck => rw [hm] at q; exact q.elim
    | exc e b1 => exact .inl (pa1v ⟨pb, pg, H0, env, b, G, w, ev, by rw [hm] at q ⊢; exact q⟩)
    | ok d b1 =>
      rw [hm] at q
      simp only [R.bind_ok] at q
      cases d <;> first | exact q.elim | skip
      · refine .inr (pa1v ⟨pb, pg, H0, env, b, G, w, ev, ?_⟩)
        rw [hm]
        intro v G' H' s w' p
        obtain ⟨a, vs, rfl, hp, r⟩ := p
        exact ⟨a, vs, rfl, .inl (.inl (w'.tup hp)), q _ G' H' s w' (wlk_enumT (fun b G2 H2 le w2 => .inl (.inl (w2.tup (le _ _ hp)))) r).c⟩
      · refine .inl (pa1v ⟨pb, pg, H0, env, b, G, w, ev, ?_⟩)
        rw [hm]
        intro v G' H' s w' p
        obtain ⟨a, vs, rfl, hp, r⟩ := p
        exact ⟨a, vs, rfl, hp.l, q _ G' H' s w' (wlk_enumC hp r)⟩
end
end Mr

set_option Elab.async false
set_option linter.all false
set_option maxRecDepth 100000
namespace Mr
open PySem PySem.Spec L2
/-! ### data that == may compare -/
inductive Bd : Nat → D → Prop
  | non (n : Nat) : Bd n .non
  | bl (n : Nat) (k : Bool) : Bd n (.bl k)
  | int (n : Nat) (k : Int) : Bd n (.int k)
  | str (n : Nat) {k : Str} (h : PyData.canLay0 (.str k) = true) : Bd n (.str k)
  | tup {n : Nat} {ds : List D} (h : ∀ d ∈ ds, Bd n d) : Bd (n + 1) (.tup ds)
  | lst {n : Nat} {ds : List D} (h : ∀ d ∈ ds, Bd n d) : Bd (n + 1) (.lst ds)
theorem toPys_ok {n : Nat} : ∀ {ds : List D}, (∀ d ∈ ds, (toPy d).canLay0 = true ∧ (toPy d).depth ≤ n) → PyData.canLayAll0 (toPys ds) = true ∧ PyData.depthAll (toPys ds) ≤ n
  | [], _ => ⟨rfl, Nat.zero_le _⟩
  | d :: ds, h => by
    obtain ⟨h1, h2⟩ := h d List.mem_cons_self
    obtain ⟨h3, h4⟩ := toPys_ok (n := n) fun x hx => h x (List.mem_cons_of_mem _ hx)
    refine ⟨?_, ?_⟩
    · simp [toPys, PyData.canLayAll0, h1, h3]
    · simp only [toPys, PyData.depthAll]
      omega
theorem Bd.py {n : Nat} {d : D} (h : Bd n d) : (toPy d).canLay0 = true ∧ (toPy d).depth ≤ n := by
  induction h with
  | non n => exact ⟨rfl, Nat.zero_le _⟩
  | bl n k => exact ⟨rfl, Nat.zero_le _⟩
  | int n k => exact ⟨rfl, Nat.zero_le _⟩
  | str n h => exact ⟨h, Nat.zero_le _⟩
  | tup h ih =>
    obtain ⟨h1, h2⟩ := toPys_ok ih
    exact ⟨by simpa [toPy, PyData.canLay0] using h1, by simp only [toPy, PyData.depth]; omega⟩
  | lst h ih =>
    obtain ⟨h1, h2⟩ := toPys_ok ih
    exact ⟨by simpa [toPy, PyData.canLay0] using h1, by simp only [toPy, PyData.depth]; omega⟩
theorem Bd.ok {n : Nat} {d : D} (h : Bd n d) (hn : n ≤ 64 := by omega) : okD d = true := by
  obtain ⟨h1, h2⟩ := h.py
  show (_ && _) = true
  rw [h1, decide_eq_true (by omega)]
  rfl
theorem Bd.self {n : Nat} {d : D} (h : Bd n d) : eqv d d = true := SeqAt.eqv_refl _ h.py.1
theorem Bd.ne_self {n : Nat} {d : D} (h : Bd n d) (hn : n ≤ 64 := by omega) : neG d d = some (.bl false) := by
  unfold neG
  rw [if_pos ⟨h.ok hn, h.ok hn⟩, h.self]
  rfl
theorem Bd.eq_self {n : Nat} {d : D} (h : Bd n d) (hn : n ≤ 64 := by omega) : eqG d d = some (.bl true) := by
  unfold eqG
  rw [if_pos ⟨h.ok hn, h.ok hn⟩, h.self]
theorem Bd.mono {n m : Nat} {d : D} (h : Bd n d) : n ≤ m → Bd m d := by
  induction h generalizing m with
  | non n => exact fun _ => .non _
  | bl n k => exact fun _ => .bl _ _
  | int n k => exact fun _ => .int _ _
  | str n h => exact fun _ => .str _ h
  | tup h ih =>
    intro hm
    obtain ⟨m, rfl⟩ : ∃ k, m = k + 1 := ⟨m - 1, by omega⟩
    exact .tup fun d hd => ih d hd (by omega)
  | lst h ih =>
    intro hm
    obtain ⟨m, rfl⟩ : ∃ k, m = k + 1 := ⟨m - 1, by omega⟩
    exact .lst fun d hd => ih d hd (by omega)
end Mr

set_option Elab.async false
set_option linter.all false
set_option maxRecDepth 100000
namespace Mr
open PySem PySem.Spec L2
/-! ### xs.append(ys.pop(e)), both lists of this frame's alone -/
def popO (ds : List D) (k : D) : Option (D × List D) := match k with
  | .int i => if 0 ≤ i ∧ i < 1000000 then (ds[i.toNat]?).map fun d => (d, ds.eraseIdx i.toNat) else none
  | _ => none
def apK (env : Ev) (i j : Nat) (b : Bag) (es : List D) : Option (D × List D) → SO
  | some (d, ds') => if es.length < 100000 then .nx ((env.set j (.ol ds')).set i (.ol (es ++ [d]))) b else .stuck
  | none => .stuck
def apJ (mk : ME) (env : Ev) (i j : Nat) (b : Bag) : Option Sl → Option Sl → SO
  | some (.ol es), some (.ol ds) => (mk env b).so fun k b => apK env i j b es (popO ds k)
  | _, _ => .stuck
def sAppPop (i j : Nat) (mk : ME) : MS := fun env b => if i = j then .stuck else apJ mk env i j b env[i]? env[j]?
section
variable {X : Cx} {E : XK} {a : Expr} {mk : ME}
theorem readAppPop {K : PySem.W.Frag} {mg : Str → Option Value} {Dn : Ends} {σ : L2.St} {H : Hp} {i j : Nat} (h : tS K mg E (sAppPop i j mk) Dn σ H) :
    tDrop (tBM K "list" rAppend (tVar i) (tCons (tBM K "list" rPopAt (tVar j) (tCons (tM K mg E mk) tNil)) tNil)) Dn σ H := by
  obtain ⟨pb, pg, G0, H0, env, b, G, st, w, ev, q⟩ := h
  unfold sAppPop at q
  split at q
  · exact q.elim
  rename_i nij
  unfold apJ at q
  split at q
  · rename_i es ds hi hj
    obtain ⟨pi, vi, ei, hpi, gpi, h0i, rri⟩ := ev.ol hi
    obtain ⟨pj, vj, ej, hpj, gpj, h0j, rrj⟩ := ev.ol hj
    refine ⟨.ref pi, ei, .inl ⟨rfl, vi, .inl (.inl hpi)⟩, .ref pj, ej, .inl ⟨rfl, vj, .inl (.inl hpj)⟩, pb, pg, H0, env, b, G, w, ev, PstS.bind st q fun a1 b1 v1 G1 H1 s1 w1 p1 q1 => ?_⟩
    have ev1 := ev.step s1
    obtain ⟨pj', vj', ej', hpj', gpj', h0j', rrj'⟩ := ev1.ol hj
    rw [ej] at ej'
    cases ej'
    obtain ⟨pi', vi', ei', hpi', gpi', h0i', rri'⟩ := ev1.ol hi
    rw [ei] at ei'
    cases ei'
    unfold popO at q1
    split at q1
    · rename_i n
      split at q1
      · rename_i hz
        cases hd : ds[n.toNat]? with
        | none => rw [hd] at q1; exact q1.elim
        | some d =>
          rw [hd] at q1
          unfold apK at q1
          dsimp only [Option.map] at q1
          split at q1
          · rename_i hlen
            obtain ⟨v, hv, rv⟩ := rrj'.get hd
            have hnl : n.toNat < vj'.length := by
              rcases Nat.lt_or_ge n.toNat vj'.length with z | z
              · exact z
              · rw [List.getElem?_eq_none z] at hv; cases hv
            have w2 := w1.put (o := .lst (vj'.eraseIdx n.toNat)) gpj' (ne_h0 ev1.bb h0j') (ne_h0 ev1.bg h0j')
            have ev2 := ev1.putL (vs := vj') hj ej gpj' h0j' (rrj'.erase n.toNat)
            have st2 := (st.trans s1).put (o := .lst (vj'.eraseIdx n.toNat)) h0j'
            have hi2 : (env.set j (.ol (ds.eraseIdx n.toNat)))[i]? = some (.ol es) := by
              rw [List.getElem?_set_ne (Ne.symm nij)]; exact hi
            obtain ⟨pi2, vi2, ei2, hpi2, gpi2, h0i2, rri2⟩ := ev2.ol hi2
            rw [ei] at ei2
            cases ei2
            refine ⟨pj, vj', n, n.toNat, v, rfl, by rw [(show v1 = .int n from p1)], hpj', by omega, by omega, ?_, hv, ?_⟩
            · have h0 : ¬ n < 0 := by omega
              have h1 : (decide (0 ≤ n) && decide (n < (vj'.length : Int))) = true := by
                rw [Bool.and_eq_true, decide_eq_true_iff, decide_eq_true_iff]
                omega
              simp only [seqIndex?, h0, if_false, h1, if_true]
            · refine ⟨pi, vi2, v, rfl, rfl, hpi2, sz_lt (by rw [← rri2.len]; exact hlen), ?_⟩
              exact q1 σ G1 _ (st2.put h0i2) (w2.put gpi2 (ne_h0 ev2.bb h0i2) (ne_h0 ev2.bg h0i2)) (ev2.putL (vs := vi2) hi2 ei gpi2 h0i2 (rri2.append (.one rv)))
          · exact q1.elim
      · exact q1.elim
    · exact q1.elim
  · exact q.elim
/-- xs.append(ys.pop(e)) -/
theorem ds_appPop (i j : Nat) {x y : Str} {p p2 apos cpos apos2 cpos2 pos : Pos} (ha : DE X E a mk) (hN : X.N[i]? = some x := by rfl) (hv : Vis X.env.scope x := by first | exact Or.inl rfl | exact Or.inr (Or.inl rfl) | exact Or.inr (Or.inr rfl)) (hd : (x == ("__debug__" : Str)) = false := by decide) (hcd : (x == ("__classdict__" : Str)) = false := by decide)
    (hN2 : X.N[j]? = some y := by rfl) (hv2 : Vis X.env.scope y := by first | exact Or.inl rfl | exact Or.inr (Or.inl rfl) | exact Or.inr (Or.inr rfl)) (hd2 : (y == ("__debug__" : Str)) = false := by decide) (hcd2 : (y == ("__classdict__" : Str)) = false := by decide)
    (h1 : attributeBase (.Name x p) "append" X.env (eval (.Name x p) X.env) = eval (.Name x p) X.env := by rfl)
    (hf : ((backTo cpos (starEach ([.Call (.Attribute (.Name y p2) "pop" apos2) [a] [] cpos2]) X.env)).all (fun x => !x.1) && (backToKw cpos (keywordEach [] X.env)).all (fun x => x.1.isSome) && decide (([(.Call (.Attribute (.Name y p2) "pop" apos2) [a] [] cpos2 : Expr)]).length + ([] : List Keyword).length + (if ([] : List Keyword).isEmpty then 0 else 1) < 30)) = true := by rfl) (h2 : (apos.endLine == cpos.line) = true := by rfl)
    (he : starEach [.Call (.Attribute (.Name y p2) "pop" apos2) [a] [] cpos2] X.env = (false, eval (.Call (.Attribute (.Name y p2) "pop" apos2) [a] [] cpos2) X.env) :: starEach [] X.env := by rfl)
    (h12 : attributeBase (.Name y p2) "pop" X.env (eval (.Name y p2) X.env) = eval (.Name y p2) X.env := by rfl)
    (hf2 : ((backTo cpos2 (starEach ([a]) X.env)).all (fun x => !x.1) && (backToKw cpos2 (keywordEach [] X.env)).all (fun x => x.1.isSome) && decide (([a]).length + ([] : List Keyword).length + (if ([] : List Keyword).isEmpty then 0 else 1) < 30)) = true := by rfl) (h22 : (apos2.endLine == cpos2.line) = true := by rfl)
    (he2 : starEach [a] X.env = (false, eval a X.env) :: starEach [] X.env := by rfl)
    (hpl : (backTo cpos (starEach ([] : List Expr) X.env)).any (·.1) = false := by rfl) (hpl2 : (backTo cpos2 (starEach ([] : List Expr) X.env)).any (·.1) = false := by rfl)
    (hs : swapsWith (.Call (.Attribute (.Name x p) "append" apos) [.Call (.Attribute (.Name y p2) "pop" apos2) [a] [] cpos2] [] cpos) none pos.line X.env = pure false := by rfl) :
    DS X E (.Expr (.Call (.Attribute (.Name x p) "append" apos) [.Call (.Attribute (.Name y p2) "pop" apos2) [a] [] cpos2] [] cpos) pos) (sAppPop i j mk) :=
  PS.imp (ps_expr (pe_bm PySem.F.plainAttrs_list PySem.F.slot_list_append PySem.F.type_list_append mt_append (pe_var hN hv hd hcd)
    (pa_cons (pe_bm PySem.F.plainAttrs_list PySem.F.slot_list_pop PySem.F.type_list_pop mt_popAt (pe_var hN2 hv2 hd2 hcd2) (pa_cons ha pa_nil he2) h12 hf2 h22 he2 hpl2) pa_nil he) h1 hf h2 he hpl) hs) fun _ _ _ h => readAppPop h
end
/-! ### a new list, of two -/
def catG : D → D → Option D
  | .lst a, .lst b => if a.length + b.length ≤ 100000 then some (.lst (a ++ b)) else none
  | _, _ => none
@[simp] theorem o_cat {p q : List D} : catG (.lst p) (.lst q) = if p.length + q.length ≤ 100000 then some (.lst (p ++ q)) else none := rfl
def rF2 (K : PySem.W.Frag) (mg : Str → Option Value) (g : D → D → Option D) : R2 := fun x y H Q => ∃ pb pg b G dx dy d, Wd (cx K mg pb pg) b G H ∧ Vw (cx K mg pb pg) G H dx x ∧ Vw (cx K mg pb pg) G H dy y ∧ g dx dy = some d ∧
  ∀ v G' H', Stp (cx K mg pb pg) G H G' H' → Wd (cx K mg pb pg) b G' H' → pF (cx K mg pb pg) H G' H' d v → Q v H'
section
variable {X : Cx} {E : XK} {a b : Expr} {ma mb : ME} {pos : Pos}
theorem readF2 {K : PySem.W.Frag} {mg : Str → Option Value} {g : D → D → Option D} {σ : L2.St} {H : Hp} {Q : VK} (h : tF K mg E (m2 g ma mb) σ H Q) : tOp (rF2 K mg g) (tV K mg E ma) (tV K mg E mb) σ H Q := by
  obtain ⟨pb, pg, H0, env, b, G, w, ev, q⟩ := h
  refine ⟨pb, pg, H0, env, b, G, w, ev, PstG.bind q fun a1 b1 v1 G1 H1 s1 w1 p1 q1 => ?_⟩
  refine ⟨pb, pg, H0, env, b1, G1, w1, ev.step s1, PstG.bind q1 fun a2 b2 v2 G2 H2 s2 w2 p2 q2 => ?_⟩
  cases hg : g a1 a2 with
  | none => rw [hg] at q2; exact q2.elim
  | some d => rw [hg] at q2; exact ⟨pb, pg, b2, G2, a1, a2, d, w2, p1.mono s2, p2, hg, fun v G' H' s' w' f' => q2 v G' H' s' w' (pF.weak (fun x hx => s2.dm x (s1.dm x hx)) f')⟩
theorem op_catF : OpR X (binaryOp .Add) (rF2 X.K X.mg catG) := by
  intro pins s σ H x y v u Q I rx ry h
  obtain ⟨pb, pg, b, G, dx, dy, d, w, vx, vy, e, q⟩ := h
  cases dx <;> cases dy <;> first | (cases e; done) | skip
  rename_i ds es
  obtain ⟨hz, rfl⟩ := ite_some (c := ds.length + es.length ≤ 100000) (a := D.lst (ds ++ es)) e
  obtain ⟨p1, vs, rfl, h1, r1⟩ := vx
  obtain ⟨p2, ws, rfl, h2, r2⟩ := vy
  have l1 := r1.len
  have l2 := r2.len
  refine op_catR pins s σ H _ _ v u Q I rx ry ⟨p1, p2, vs, ws, rfl, rfl, h1.1, h2.1, sz_of (by omega), fun p hp => ?_⟩
  exact pF_new w (r1.append r2) hp q
theorem df_cat (ha : DV X E a ma) (hb : DV X E b mb) : DF X E (.BinOp a .Add b pos) (m2 catG ma mb) :=
  PE.imp (pe_op op_catF ha hb) fun _ _ _ h => readF2 h
end
end Mr

set_option Elab.async false
set_option linter.all false
set_option maxRecDepth 100000
namespace Mr
open PySem PySem.Spec L2
/-! ### Kuhn's step, plainly -/
def putT (tk : List (Int × Int)) (k v : Int) : List (Int × Int) := if (tk.any fun p => decide (p.1 = k)) = true then tk.map (fun p => if p.1 = k then (p.1, v) else p) else tk ++ [(k, v)]
def lookT : List (Int × Int) → Int → Option Int
  | [], _ => none
  | p :: t, k => if p.1 = k then some p.2 else lookT t k
def ffl (rec : List (Int × Int) → List Int → Int → Option (Bool × List (Int × Int) × List Int)) (at_ : Int) : List Int → List (Int × Int) → List Int → Option (Bool × List (Int × Int) × List Int)
  | [], tk, sn => some (false, tk, sn)
  | to :: row, tk, sn => if to ∈ sn then ffl rec at_ row tk sn else if 1000 ≤ sn.length ∨ 1000 ≤ tk.length then none else
    match lookT tk to with
    | none => some (true, putT tk to at_, sn ++ [to])
    | some h => match rec tk (sn ++ [to]) h with
      | none => none
      | some (true, tk2, sn2) => if 1000 ≤ tk2.length then none else some (true, putT tk2 to at_, sn2)
      | some (false, tk2, sn2) => ffl rec at_ row tk2 sn2
def ff (rows : List (List Int)) : Nat → List (Int × Int) → List Int → Int → Option (Bool × List (Int × Int) × List Int)
  | 0, _, _, _ => none
  | n + 1, tk, sn, at_ => match atI rows at_ with
    | none => none
    | some row => ffl (ff rows n) at_ row tk sn
def eT (tk : List (Int × Int)) : List (Key × V) := tk.map fun p => (.inl p.1, .int p.2)
theorem valV_eT : ∀ (tk : List (Int × Int)) (k : Int), valV (eT tk) (.inl k : Key) = (lookT tk k).map V.int
  | [], k => rfl
  | p :: tk, k => by
    unfold eT lookT
    rw [List.map_cons]
    by_cases h : p.1 = k
    · rw [if_pos h, valV_pos (by rw [h])]
      rfl
    · rw [if_neg h]
      have := valV_eT tk k
      unfold eT at this
      rw [← this]
      exact valV_neg (fun z => h (Sum.inl.inj z))
theorem putK_eT (tk : List (Int × Int)) (k v : Int) : putK (eT tk) (.inl k : Key) (V.int v) = eT (putT tk k v) := by
  unfold putK putT eT
  have h : ((tk.map fun p => ((.inl p.1 : Key), V.int p.2)).any fun kv => decide (kv.1 = .inl k)) = tk.any fun p => decide (p.1 = k) := by
    rw [List.any_map]
    congr 1
    funext p
    show decide ((Sum.inl p.1 : Key) = .inl k) = decide (p.1 = k)
    by_cases z : p.1 = k
    · simp [z]
    · rw [decide_eq_false z, decide_eq_false fun y => z (Sum.inl.inj y)]
  rw [h]
  split
  · rw [List.map_map, List.map_map]
    congr 1
    funext p
    show (if (Sum.inl p.1 : Key) = .inl k then ((.inl p.1 : Key), V.int v) else (.inl p.1, .int p.2)) = _
    by_cases z : p.1 = k
    · rw [if_pos (by rw [z])]
      show _ = ((.inl (if p.1 = k then (p.1, v) else p).1 : Key), V.int (if p.1 = k then (p.1, v) else p).2)
      rw [if_pos z]
    · rw [if_neg fun y => z (Sum.inl.inj y)]
      show _ = ((.inl (if p.1 = k then (p.1, v) else p).1 : Key), V.int (if p.1 = k then (p.1, v) else p).2)
      rw [if_neg z]
  · rw [List.map_append]
    rfl
def hp2 (H : Hp) (t s : Addr) (tk : List (Int × Int)) (sn : List Int) : Hp := upd (upd H t (.dK (eT tk))) s (.lst (sn.map V.int))
section
variable {H : Hp} {t s a : Addr} {tk tk' : List (Int × Int)} {sn sn' : List Int}
theorem hp2_s : hp2 H t s tk sn s = some (.lst (sn.map V.int)) := upd_same
theorem hp2_t (h : t ≠ s) : hp2 H t s tk sn t = some (.dK (eT tk)) := by
  unfold hp2
  rw [upd_ne h, upd_same]
theorem hp2_a (h1 : a ≠ t) (h2 : a ≠ s) : hp2 H t s tk sn a = H a := by
  unfold hp2
  rw [upd_ne h2, upd_ne h1]
theorem hp2_ps : upd (hp2 H t s tk sn) s (.lst (sn'.map V.int)) = hp2 H t s tk sn' := by
  funext b
  unfold hp2
  by_cases h : b = s
  · rw [h, upd_same, upd_same]
  · rw [upd_ne h, upd_ne h, upd_ne h]
theorem hp2_pt (h : t ≠ s) : upd (hp2 H t s tk sn) t (.dK (eT tk')) = hp2 H t s tk' sn := by
  funext b
  unfold hp2
  by_cases h1 : b = t
  · rw [h1, upd_same, upd_ne h, upd_same]
  · rw [upd_ne h1]
    by_cases h2 : b = s
    · rw [h2, upd_same, upd_same]
    · rw [upd_ne h2, upd_ne h2, upd_ne h1, upd_ne h1]
theorem hp2_id (ht : H t = some (.dK (eT tk))) (hs : H s = some (.lst (sn.map V.int))) : hp2 H t s tk sn = H := by
  funext b
  unfold hp2
  by_cases h2 : b = s
  · rw [h2, upd_same, hs]
  · rw [upd_ne h2]
    by_cases h1 : b = t
    · rw [h1, upd_same, ht]
    · rw [upd_ne h1]
theorem hp2_hp2 : hp2 (hp2 H t s tk sn) t s tk' sn' = hp2 H t s tk' sn' := by
  funext b
  unfold hp2
  by_cases h2 : b = s
  · rw [h2, upd_same, upd_same]
  · rw [upd_ne h2, upd_ne h2]
    by_cases h1 : b = t
    · rw [h1, upd_same, upd_same]
    · rw [upd_ne h1, upd_ne h1, upd_ne h2, upd_ne h1]
theorem sql_hp2 {K : PySem.W.Frag} {xs : List V} (h : SqL K H a xs) (h1 : a ≠ t) (h2 : a ≠ s) : SqL K (hp2 H t s tk sn) a xs := by
  rcases h with (h | ⟨o, h⟩) | h
  · exact .inl (.inl (by rw [hp2_a h1 h2]; exact h))
  · exact .inl (.inr ⟨o, by rw [hp2_a h1 h2]; exact h⟩)
  · exact .inr h
end
theorem inV_ints (k : Int) : ∀ sn : List Int, inV (.int k) (sn.map V.int) = decide (k ∈ sn)
  | [] => by simp [inV]
  | n :: sn => by
    have := inV_ints k sn
    unfold inV at this ⊢
    rw [List.map_cons, List.any_cons, this]
    show (decide (n = k) || decide (k ∈ sn)) = _
    rw [Bool.eq_iff_iff, Bool.or_eq_true, decide_eq_true_iff, decide_eq_true_iff, decide_eq_true_iff, List.mem_cons]
    exact ⟨fun h => h.imp Eq.symm id, fun h => h.imp Eq.symm id⟩
theorem flatV_ints (sn : List Int) : (sn.map V.int).all flatV = true := by
  induction sn with
  | nil => rfl
  | cons n sn ih => rw [List.map_cons, List.all_cons, ih]; rfl
/-- what one step of Kuhn's promises -/
def spFF (K : PySem.W.Frag) (n : Nat) : Sp := fun vs H Q _ => ∃ (at_ : Int) (e t s : Addr) (rows : List (Addr × List Int)) (tk : List (Int × Int)) (sn : List Int) (r : Bool × List (Int × Int) × List Int),
  vs = [.int at_, .ref e, .ref t, .ref s] ∧ SqL K H e (rows.map fun r => V.ref r.1) ∧ (∀ r ∈ rows, SqL K H r.1 (r.2.map V.int) ∧ r.1 ≠ t ∧ r.1 ≠ s) ∧ e ≠ t ∧ e ≠ s ∧ t ≠ s ∧
  H t = some (.dK (eT tk)) ∧ H s = some (.lst (sn.map V.int)) ∧ ff (rows.map (·.2)) n tk sn at_ = some r ∧ Q (.bl r.1) (hp2 H t s r.2.1 r.2.2)
end Mr

set_option Elab.async false
set_option linter.all false
set_option maxRecDepth 100000
namespace Mr
open PySem PySem.Spec L2
/-! ### if .. and not found_for(at, edges, taken, []): return False -/
def intD : D → Option Int
  | .int i => some i
  | _ => none
def intL : List D → Option (List Int)
  | [] => some []
  | .int i :: ds => (intL ds).map (i :: ·)
  | _ :: _ => none
def rowsL : List D → Option (List (List Int))
  | [] => some []
  | .lst ds :: es => match intL ds, rowsL es with
    | some r, some rs => some (r :: rs)
    | _, _ => none
  | _ :: _ => none
def rowsD : D → Option (List (List Int))
  | .lst ds => rowsL ds
  | _ => none
def tkD : List Key → List D → Option (List (Int × Int))
  | [], [] => some []
  | .inl k :: ks, .int v :: ds => (tkD ks ds).map ((k, v) :: ·)
  | _, _ => none
def tkKs (tk : List (Int × Int)) : List Key := tk.map fun p => .inl p.1
def tkDs (tk : List (Int × Int)) : List D := tk.map fun p => .int p.2
def ffO (env : Ev) (it : Nat) (b : Bag) : Option (Bool × List (Int × Int) × List Int) → SO
  | some (true, tk, _) => .nx (env.set it (.oK (tkKs tk) (tkDs tk))) b
  | some (false, _, _) => .rt (.bl false) b
  | none => .stuck
def ffM (n it : Nat) (env : Ev) (b : Bag) (a : Int) : Option (List (List Int)) → Option (List (Int × Int)) → SO
  | some rows, some tk => ffO env it b (ff rows n tk [] a)
  | _, _ => .stuck
def ffK (n it : Nat) (env : Ev) (b : Bag) : Option Sl → Option Sl → Option Sl → SO
  | some (.va (.int a)), some (.va d), some (.oK ks ds) => ffM n it env b a (rowsD d) (tkD ks ds)
  | _, _, _ => .stuck
def sIfFF (n ia ie it : Nat) (mt : MT) : MS := fun env b => (mt env b).so fun k b => if k = true then ffK n it env b env[ia]? env[ie]? env[it]? else .nx env b
section
variable {c : MC} {G : Hp}
theorem intL_rep : ∀ {ds : List D} {vs : List V} {ns : List Int}, Reps c G ds vs → intL ds = some ns → vs = ns.map V.int
  | [], vs, ns, r, h => by cases (show vs = [] from r); cases h; rfl
  | d :: ds, vs, ns, r, h => by
    obtain ⟨v, ws, rfl, r1, r2⟩ := r
    cases d <;> first | (cases h; done) | skip
    simp only [intL, Option.map_eq_some_iff] at h
    obtain ⟨ns', h, rfl⟩ := h
    rw [intL_rep r2 h, (show v = .int _ from r1)]
    rfl
theorem rowsL_rep : ∀ {ds : List D} {vs : List V} {rs : List (List Int)}, Reps c G ds vs → rowsL ds = some rs → ∃ ra : List (Addr × List Int), vs = ra.map (fun r => V.ref r.1) ∧ rs = ra.map (·.2) ∧ ∀ r ∈ ra, G r.1 = some (.lst (r.2.map V.int))
  | [], vs, rs, r, h => by cases (show vs = [] from r); cases h; exact ⟨[], rfl, rfl, by simp⟩
  | d :: ds, vs, rs, r, h => by
    obtain ⟨v, ws, rfl, r1, r2⟩ := r
    cases d <;> first | (cases h; done) | skip
    rename_i es
    simp only [rowsL] at h
    split at h
    · rename_i a as e1 e2
      cases h
      obtain ⟨p, vs2, rfl, hp, rr⟩ := r1
      obtain ⟨ra, rfl, e3, hR⟩ := rowsL_rep r2 e2
      rw [intL_rep rr e1] at hp
      exact ⟨(p, a) :: ra, rfl, by rw [e3]; rfl, fun x hx => by
        rcases List.mem_cons.mp hx with rfl | hx
        · exact hp
        · exact hR x hx⟩
    · cases h
theorem tkD_rep : ∀ {ks : List Key} {ds : List D} {vs : List V} {tk : List (Int × Int)}, Reps c G ds vs → tkD ks ds = some tk → ks.zip vs = eT tk
  | [], [], vs, tk, r, h => by cases h; rfl
  | [], d :: ds, vs, tk, r, h => by cases h
  | k :: ks, [], vs, tk, r, h => by cases k <;> cases h
  | k :: ks, d :: ds, vs, tk, r, h => by
    obtain ⟨v, ws, rfl, r1, r2⟩ := r
    cases k <;> cases d <;> first | (cases h; done) | skip
    simp only [tkD, Option.map_eq_some_iff] at h
    obtain ⟨tk', h, rfl⟩ := h
    have := tkD_rep r2 h
    rw [List.zip_cons_cons, this, (show v = .int _ from r1)]
    rfl
theorem tk_zip (tk : List (Int × Int)) : eT tk = (tkKs tk).zip (tk.map fun p => V.int p.2) := by
  unfold eT tkKs
  rw [List.zip_map']
theorem tk_reps (tk : List (Int × Int)) : Reps c G (tkDs tk) (tk.map fun p => V.int p.2) := by
  induction tk with
  | nil => exact .nil
  | cons p tk ih => exact .cons rfl ih
end
end Mr

set_option Elab.async false
set_option linter.all false
set_option maxRecDepth 100000
namespace Mr
open PySem PySem.Spec L2
section
variable {X : Cx} {mt : MT} {k n j ia ie it : Nat} {t : Expr} {xa xe xt : Str} {p p1 p2 p3 p4 p5 q1 q2 pos rp : Pos} {lp cc : Nat}
theorem readFF {K : PySem.W.Frag} {mg : Str → Option Value} {Dn : Ends} {σ : L2.St} {H : Hp} (h : tS K mg E0 (sIfFF n ia ie it mt) Dn σ H) :
    tIfS (tAnd (tT K mg E0 mt) (tNot (tB (tCall (spFF K n) [] E0 (tCons (tVar ia) (tCons (tVar ie) (tCons (tVar it) (tCons (tLst tNil) tNil)))))))) (fun D σ H => D.rt (.bl false) H) (fun D σ H => D.nx σ H) Dn σ H := by
  obtain ⟨pb, pg, G0, H0, env, b, G, st, w, ev, q⟩ := h
  refine ⟨pb, pg, H0, env, b, G, w, ev, PstS.bind st q fun a1 b1 v1 G1 H1 s1 w1 p1 q1 => ?_⟩
  cases (show v1 = a1 from p1)
  have ev1 := ev.step s1
  cases a1 with
  | false =>
    rw [if_neg Bool.false_ne_true] at q1
    show Dn.nx σ H1
    exact q1 σ G1 H1 (st.trans s1) w1 ev1
  | true =>
    rw [if_pos rfl] at q1
    rw [if_pos rfl]
    show tNot (tB (tCall (spFF K n) [] E0 (tCons (tVar ia) (tCons (tVar ie) (tCons (tVar it) (tCons (tLst tNil) tNil)))))) σ H1 _
    unfold ffK at q1
    split at q1
    · rename_i a d ks ds ea ee et
      obtain ⟨_, e1, va, rfl, ra⟩ := ev1.at_ ia _ ea
      cases (show va = .int a from ra)
      obtain ⟨_, e2, ve, rfl, re⟩ := ev1.at_ ie _ ee
      obtain ⟨pt, vs, e3, hp, hl, gp, h0, rr⟩ := ev1.oK et
      unfold ffM at q1
      split at q1
      · rename_i rows tk hrows htk
        cases d <;> first | (cases hrows; done) | skip
        obtain ⟨pe, vse, rfl, hpe, rre⟩ := re
        obtain ⟨rw1, rfl, erows, hR⟩ := rowsL_rep rre hrows
        have eT1 := tkD_rep rr htk
        rw [eT1] at hp
        refine ⟨_, e1, _, e2, _, e3, Nat.zero_le _, fun s0 ns0 => ?_⟩
        have w2 := (Stp.newO (o := .lst []) w1 ns0).2.1
        have s2 := (Stp.newO (o := .lst []) w1 ns0).1
        have gs0 : G1 s0 = none := (Stp.newO (o := .lst []) w1 ns0).2.2
        have h0s : H0 s0 = none := Classical.byContradiction fun z => by
          exact absurd ns0 (by
            have := st.trans s1
            exact this.dm s0 z)
        have hpt : pt ≠ s0 := fun z => by rw [z, ns0] at hp; cases hp
        have hH2 : (upd H1 s0 (.lst [])) pt = some (.dK (eT tk)) := by rw [upd_ne hpt]; exact hp
        cases hf : ff rows n tk [] a with
        | none => rw [hf] at q1; exact q1.elim
        | some r =>
          obtain ⟨kf, tk', sn'⟩ := r
          rw [hf] at q1
          have gpe : pe ≠ pt := fun z => by rw [z, gp] at hpe; cases hpe
          have gpe2 : pe ≠ s0 := fun z => by rw [z, gs0] at hpe; cases hpe
          refine ⟨a, pe, pt, s0, rw1, tk, [], (kf, tk', sn'), rfl, .inl (w2.rd hpe), fun r hr => ⟨.inl (w2.rd (hR r hr)), fun z => ?_, fun z => ?_⟩, gpe, gpe2, hpt, hH2, upd_same, by rw [← erows]; exact hf, kf, rfl, ?_⟩
          · have := hR r hr
            rw [z, gp] at this
            cases this
          · have := hR r hr
            rw [z, gs0] at this
            cases this
          -- the world behind the call
          have nbt := (ne_h0 ev1.bb h0)
          have ngt := (ne_h0 ev1.bg h0)
          have nbs := (ne_h0 ev1.bb h0s)
          have ngs := (ne_h0 ev1.bg h0s)
          have w3 : Wd (cx K mg pb pg) b1 G1 (upd (upd H1 s0 (.lst [])) pt (.dK (eT tk'))) := w2.put gp nbt ngt
          have w4 : Wd (cx K mg pb pg) b1 G1 (hp2 (upd H1 s0 (.lst [])) pt s0 tk' sn') := w3.put gs0 nbs ngs
          have st4 : Stp (cx K mg pb pg) G0 H0 G1 (hp2 (upd H1 s0 (.lst [])) pt s0 tk' sn') := (((st.trans s1).trans s2).put h0).put h0s
          cases kf with
          | false =>
            exact q1 (.bl false) G1 _ st4 w4 rfl
          | true =>
            have hl2 : (tkKs tk').length = (tk'.map fun p => V.int p.2).length := by simp [tkKs]
            have evA := ev1.putD et e3 gp h0 hl2 (tk_reps tk')
            rw [← tk_zip] at evA
            have wA : Wd (cx K mg pb pg) b1 G1 (upd H1 pt (.dK (eT tk'))) := w1.put gp nbt ngt
            have nsA : (upd H1 pt (.dK (eT tk'))) s0 = none := by rw [upd_ne (Ne.symm hpt)]; exact ns0
            have ev4 := evA.step (Stp.newO (o := .lst (sn'.map V.int)) wA nsA).1
            have hh : hp2 (upd H1 s0 (.lst [])) pt s0 tk' sn' = upd (upd H1 pt (.dK (eT tk'))) s0 (.lst (sn'.map V.int)) := by
              funext z
              unfold hp2
              by_cases z2 : z = s0
              · rw [z2, upd_same, upd_same]
              · rw [upd_ne z2, upd_ne z2]
                by_cases z1 : z = pt
                · rw [z1, upd_same, upd_same]
                · rw [upd_ne z1, upd_ne z1, upd_ne z2]
            rw [← hh] at ev4
            exact q1 σ G1 _ st4 w4 ev4
      · exact q1.elim
    · exact q1.elim
theorem ds_ifFF (F : Fk X.prog X.w X.K X.mg X.base CX0 "_law_found_for" k 4 (spFF X.K n)) (ia ie it : Nat) {rp2 : Pos} (hr : Room j X.A) (hg : Gl X "_law_found_for") (ht : DT X E0 t mt) (hj : k ≤ j := by decide)
    (na : X.N[ia]? = some xa := by rfl) (ne : X.N[ie]? = some xe := by rfl) (nt : X.N[it]? = some xt := by rfl)
    (va : Vis X.env.scope xa := by first | exact Or.inl rfl | exact Or.inr (Or.inl rfl) | exact Or.inr (Or.inr rfl)) (ve : Vis X.env.scope xe := by first | exact Or.inl rfl | exact Or.inr (Or.inl rfl) | exact Or.inr (Or.inr rfl)) (vt : Vis X.env.scope xt := by first | exact Or.inl rfl | exact Or.inr (Or.inl rfl) | exact Or.inr (Or.inr rfl))
    (da : (xa == ("__debug__" : Str)) = false := by decide) (de : (xe == ("__debug__" : Str)) = false := by decide) (dt : (xt == ("__debug__" : Str)) = false := by decide)
    (ca : (xa == ("__classdict__" : Str)) = false := by decide) (ce : (xe == ("__classdict__" : Str)) = false := by decide) (ct : (xt == ("__classdict__" : Str)) = false := by decide)
    (s4 : starEach [.List [] p4] X.env = (false, eval (.List [] p4) X.env) :: starEach [] X.env := by rfl) (s3 : starEach [.Name xt p3, .List [] p4] X.env = (false, eval (.Name xt p3) X.env) :: starEach [.List [] p4] X.env := by rfl)
    (s2 : starEach [.Name xe p2, .Name xt p3, .List [] p4] X.env = (false, eval (.Name xe p2) X.env) :: starEach [.Name xt p3, .List [] p4] X.env := by rfl)
    (s1 : starEach [.Name xa p1, .Name xe p2, .Name xt p3, .List [] p4] X.env = (false, eval (.Name xa p1) X.env) :: starEach [.Name xe p2, .Name xt p3, .List [] p4] X.env := by rfl) (hpl : (backTo p5 (starEach [.Name xe p2, .Name xt p3, .List [] p4] X.env)).any (·.1) = false := by rfl)
    (hw : ∀ whole, isTrue (.Call (.Name "_law_found_for" p) [.Name xa p1, .Name xe p2, .Name xt p3, .List [] p4] [] p5) X.env whole = (do
      let v ← whole
      standAt (Expr.Call (.Name "_law_found_for" p) [.Name xa p1, .Name xe p2, .Name xt p3, .List [] p4] [] p5).pos
      holding [v] (truthy v)) := by intro _; rfl) :
    DS X E0 (.If (.BoolOp .And [t, .UnaryOp .Not (.Call (.Name "_law_found_for" p) [.Name xa p1, .Name xe p2, .Name xt p3, .List [] p4] [] p5) q1] q2) [.Return (some (.Constant (.bool false) cc rp)) rp2] [] pos) (sIfFF n ia ie it mt) := by
  obtain ⟨f, fd, ps, hm, hk, hb, G⟩ := F.ex
  exact PS.imp (ps_if (pw_and ht (pw_and1 (pt_not (pt_val (pe_call G (hr.mono hj) hg hm hk hb .nil pass0 (pa_cons (pe_var na va da ca) (pa_cons (pe_var ne ve de ce) (pa_cons (pe_var nt vt dt ct) (pa_cons (pe_lst pa_nil) pa_nil s4) s3) s2) s1) (by decide) s1 hpl) hw)))).pt (pss_one (ps_ret pe_bl)) pss_nil) fun _ _ _ h => readFF h
end
end Mr

namespace Mr
open PySem PySem.Spec L2
def topS (i : Nat) : Stmt := PySem.Challenge.pw_mapwebs_k47_whole_nearest.main.body.getD i (.Pass ⟨0, 0, 0, 0⟩)
abbrev s__law_bag : Stmt := topS 25
abbrev s__law_pick : Stmt := topS 26
abbrev s__law_some : Stmt := topS 27
abbrev s__law_bar : Stmt := topS 34
abbrev s__law_moved : Stmt := topS 35
abbrev s__law_lists : Stmt := topS 36
abbrev s__law_steps : Stmt := topS 37
abbrev s__law_is_long : Stmt := topS 29
abbrev s__law_fits : Stmt := topS 28
abbrev s__law_paired : Stmt := topS 30
abbrev s__law_found_for : Stmt := topS 31
abbrev s__law_all_found : Stmt := topS 32
abbrev s__law_is_there : Stmt := topS 33
abbrev s__law_due : Stmt := topS 38
abbrev s_is_integer : Stmt := topS 5
abbrev s_is_within : Stmt := topS 6
abbrev s_is_bar : Stmt := topS 12
abbrev s_check_bars : Stmt := topS 13
abbrev s_is_long : Stmt := topS 15
abbrev s_do_fit : Stmt := topS 14
abbrev s_back_along : Stmt := topS 16
abbrev s_way_from : Stmt := topS 17
abbrev s_with_all : Stmt := topS 18
abbrev s_paired_or_banned : Stmt := topS 19
abbrev s_nearest : Stmt := topS 23
abbrev s_check_within : Stmt := topS 7
abbrev s_check_asked : Stmt := topS 20
abbrev s_pairing : Stmt := topS 21
abbrev s_ban : Stmt := topS 22
abbrev s__law_shuffled : Stmt := topS 39
abbrev s_law : Stmt := topS 40
def fm__law_pick : MF := fm_pick
def ms__law_some : MS := (sRet (m2 ixG (mVar 1) (mCall0 fm__law_pick (mCons (mVar 0) (mCons (mB lenG (mCons (mVar 1) mNil)) mNil)))))
def fm__law_some : MF := fnM 2 ms__law_some
def ms__law_bar : MS := (sSeq (sAsg (gNm 2) (m2 subG (mCall0 fm__law_pick (mCons (mVar 0) (mCons (m2 addG (m2 mulG (mC (.int 2)) (mVar 1)) (mC (.int 1))) mNil))) (mVar 1))) (sSeq (sIf (mOrT (mT (m2 eqG (mCall0 fm__law_pick (mCons (mVar 0) (mCons (mC (.int 4)) mNil))) (mC (.int 0)))) (mT (m2 eqG (mVar 2) (mVar 1)))) (sRet (mTup (mCons (mB min2G (mCons (mVar 2) (mCons (mC (.int 999)) mNil))) (mCons (mC .non) mNil)))) sSkip) (sRet (mTup (mCons (mVar 2) (mCons (m2 addG (m2 addG (mVar 2) (mC (.int 1))) (mCall0 fm__law_pick (mCons (mVar 0) (mCons (mB min2G (mCons (m2 subG (mVar 1) (mVar 2)) (mCons (m2 addG (mC (.int 1)) (mCall0 fm__law_some (mCons (mVar 0) (mCons (mLst (mCons (mC (.int 2)) (mCons (mC (.int 6)) (mCons (m2 mulG (mC (.int 2)) (mVar 1)) mNil)))) mNil)))) mNil))) mNil)))) mNil))))))
def fm__law_bar : MF := fnM 3 ms__law_bar
def ms__law_moved : MS := (sSeq (sAsg (gNm 3) (mB max2G (mCons (m1 negG (mVar 2)) (mCons (mB min2G (mCons (m2 subG (mVar 2) (mC (.int 1))) (mCons (m2 subG (m2 addG (m2 ixG (mVar 1) (mC (.int 0))) (mCall0 fm__law_pick (mCons (mVar 0) (mCons (mC (.int 5)) mNil)))) (mC (.int 2))) mNil))) mNil)))) (sSeq (sIf (mT (m2 isG (m2 ixG (mVar 1) (mC (.int 1))) (mC .non))) (sRet (mTup (mCons (mVar 3) (mCons (mC .non) mNil)))) sSkip) (sRet (mTup (mCons (mVar 3) (mCons (mB max2G (mCons (m2 addG (mVar 3) (mC (.int 1))) (mCons (mB min2G (mCons (mVar 2) (mCons (m2 subG (m2 addG (m2 ixG (mVar 1) (mC (.int 1))) (mCall0 fm__law_pick (mCons (mVar 0) (mCons (mC (.int 5)) mNil)))) (mC (.int 2))) mNil))) mNil))) mNil))))))
def fm__law_moved : MF := fnM 4 ms__law_moved
def ms__law_lists : MS := (sSeq (sAsg (gNm 3) (mLc (mRg1 (mCall0 fm__law_pick (mCons (mVar 0) (mCons (m2 addG (mVar 2) (mC (.int 1))) mNil)))) (gNm 6) mYes (mCall0 fm__law_bar (mCons (mVar 0) (mCons (mVar 1) mNil))) [6])) (sSeq (sOwn 4 (mLst mNil)) (sSeq (sFor (mSeq (mVar 3)) (gNm 5) (sIf (mT (m2 gtG (mCall0 fm__law_pick (mCons (mVar 0) (mCons (mC (.int 6)) mNil))) (mC (.int 0)))) (sMeth 4 (mCons (mCall0 fm__law_pick (mCons (mVar 0) (mCons (m2 addG (mB lenG (mCons (mOwn 4) mNil)) (mC (.int 1))) mNil))) (mCons (mCall0 fm__law_moved (mCons (mVar 0) (mCons (mVar 5) (mCons (mVar 1) mNil)))) mNil)) insG) sSkip)) (sSeq (sWhile 50 (mAndT (mT (m2 ltG (mB lenG (mCons (mOwn 4) mNil)) (mVar 2))) (mT (m2 eqG (mCall0 fm__law_pick (mCons (mVar 0) (mCons (mC (.int 3)) mNil))) (mC (.int 0))))) (sMeth 4 (mCons (mCall0 fm__law_bar (mCons (mVar 0) (mCons (mVar 1) mNil))) mNil) appG)) (sFrz 4 (sRet (mTup (mCons (mVar 3) (mCons (mVar 4) mNil)))))))))
def fm__law_lists : MF := fnM 7 ms__law_lists
def ms__law_steps : MS := (sSeq (sOwn 2 (m2 catG (mLst (mCons (mC (.int 0)) mNil)) (mLc (mSeq (m2 addG (mVar 0) (mVar 1))) (gNm 3) (mT (m2 isnG (m2 ixG (mVar 3) (mC (.int 1))) (mC .non))) (m2 divG (m2 addG (m2 subG (m2 ixG (mVar 3) (mC (.int 1))) (m2 ixG (mVar 3) (mC (.int 0)))) (mC (.int 1))) (mC (.int 2))) [3]))) (sSeq (sFor (mSeq (mVar 0)) (gNm 3) (sSeq (sMeth 2 (mCons (mLc (mSeq (mVar 1)) (gNm 6) mYes (mB absG (mCons (m2 subG (m2 ixG (mVar 3) (mC (.int 0))) (m2 ixG (mVar 6) (mC (.int 0)))) mNil)) [6]) mNil) extG) (sIf (mT (m2 isnG (m2 ixG (mVar 3) (mC (.int 1))) (mC .non))) (sMeth 2 (mCons (mLc (mSeq (mVar 1)) (gNm 6) (mT (m2 isnG (m2 ixG (mVar 6) (mC (.int 1))) (mC .non))) (mB absG (mCons (m2 subG (m2 ixG (mVar 3) (mC (.int 1))) (m2 ixG (mVar 6) (mC (.int 1)))) mNil)) [6]) mNil) extG) sSkip))) (sSeq (sOwn 4 (mLst mNil)) (sSeq (sFor (mSeq (mB sortedIG (mCons (mOwn 2) mNil))) (gNm 5) (sIf (mOrT (mT (m2 eqG (mB lenG (mCons (mOwn 4) mNil)) (mC (.int 0)))) (mT (m2 neG (m2 ixG (mOwn 4) (m1 negG (mC (.int 1)))) (mVar 5)))) (sMeth 4 (mCons (mVar 5) mNil) appG) sSkip)) (sFrz 4 (sRet (mVar 4)))))))
def fm__law_steps : MF := fnM 7 ms__law_steps
def ms__law_is_long : MS := (sRet (mOr (m2 isG (m2 ixG (mVar 0) (mC (.int 1))) (mC .non)) (m2 gtG (m2 subG (m2 ixG (mVar 0) (mC (.int 1))) (m2 ixG (mVar 0) (mC (.int 0)))) (m2 mulG (mC (.int 2)) (mVar 1)))))
def fm__law_is_long : MF := fnM 2 ms__law_is_long
def ms__law_fits : MS := (sSeq (sIf (mT (m2 gtG (mB absG (mCons (m2 subG (m2 ixG (mVar 0) (mC (.int 0))) (m2 ixG (mVar 1) (mC (.int 0)))) mNil)) (mVar 2))) (sRet (mC (.bl false))) sSkip) (sSeq (sIf (mOrT (mT (m2 isG (m2 ixG (mVar 0) (mC (.int 1))) (mC .non))) (mT (m2 isG (m2 ixG (mVar 1) (mC (.int 1))) (mC .non)))) (sRet (mAnd (m2 isG (m2 ixG (mVar 0) (mC (.int 1))) (mC .non)) (m2 isG (m2 ixG (mVar 1) (mC (.int 1))) (mC .non)))) sSkip) (sRet (m2 leG (mB absG (mCons (m2 subG (m2 ixG (mVar 0) (mC (.int 1))) (m2 ixG (mVar 1) (mC (.int 1)))) mNil)) (mVar 2)))))
def fm__law_fits : MF := fnM 3 ms__law_fits
def ms__law_paired (fmr : MF) : MS := (sSeq (sIf (mT (m2 eqG (mVar 4) (mB lenG (mCons (mVar 0) mNil)))) (sRet (mB allG (mCons (mLc (mEnumL (mVar 1)) (gTp (gCn (gNm 5) (gCn (gNm 6) gNl))) mYes (mOr (m2 (inG false) (mVar 5) (mVar 3)) (mNot (mCall0 fm__law_is_long (mCons (mVar 6) (mCons (mVar 2) mNil))))) [5, 6]) mNil))) sSkip) (sSeq (sIf (mAndT (mNotT (mT (mCall0 fm__law_is_long (mCons (m2 ixG (mVar 0) (mVar 4)) (mCons (mVar 2) mNil))))) (mT (mCall0 fmr (mCons (mVar 0) (mCons (mVar 1) (mCons (mVar 2) (mCons (mVar 3) (mCons (m2 addG (mVar 4) (mC (.int 1))) mNil)))))))) (sRet (mC (.bl true))) sSkip) (sSeq (sFor (mEnumL (mVar 1)) (gTp (gCn (gNm 5) (gCn (gNm 6) gNl))) (sIf (mAndT (mT (m2 (inG true) (mVar 5) (mVar 3))) (mT (mCall0 fm__law_fits (mCons (m2 ixG (mVar 0) (mVar 4)) (mCons (mVar 6) (mCons (mVar 2) mNil)))))) (sIf (mT (mCall0 fmr (mCons (mVar 0) (mCons (mVar 1) (mCons (mVar 2) (mCons (m2 addG (mVar 3) (mLst (mCons (mVar 5) mNil))) (mCons (m2 addG (mVar 4) (mC (.int 1))) mNil))))))) (sRet (mC (.bl true))) sSkip) sSkip)) (sRet (mC (.bl false))))))
def fmN__law_paired : Nat → MF
  | 0 => fun _ _ => .stuck
  | n + 1 => fnM 7 (ms__law_paired (fmN__law_paired n))
def fm__law_paired : MF := fmN__law_paired 6
def ms__law_all_found : MS := (sSeq (sAsg (gNm 3) (mLc (mSeq (mVar 0)) (gNm 7) mYes (mLc (mEnumL (mVar 1)) (gTp (gCn (gNm 8) (gCn (gNm 6) gNl))) (mT (mCall0 fm__law_fits (mCons (mVar 7) (mCons (mVar 6) (mCons (mVar 2) mNil))))) (mVar 8) [8, 6]) [7])) (sSeq (sOwn 4 (mC (.dK [] []))) (sSeq (sFor (mEnumL (mVar 0)) (gTp (gCn (gNm 5) (gCn (gNm 6) gNl))) (sIfFF 30 5 3 4 (mT (mCall0 fm__law_is_long (mCons (mVar 6) (mCons (mVar 2) mNil)))))) (sRet (mC (.bl true))))))
def fm__law_all_found : MF := fnM 9 ms__law_all_found
def ms__law_is_there : MS := (sSeq (sIf (mAndT (mT (m2 ltG (mB lenG (mCons (mVar 0) mNil)) (mC (.int 5)))) (mT (m2 ltG (mB lenG (mCons (mVar 1) mNil)) (mC (.int 5))))) (sRet (mCall0 fm__law_paired (mCons (mVar 0) (mCons (mVar 1) (mCons (mVar 2) (mCons (mLst mNil) (mCons (mC (.int 0)) mNil))))))) sSkip) (sRet (mAnd (mCall0 fm__law_all_found (mCons (mVar 0) (mCons (mVar 1) (mCons (mVar 2) mNil)))) (mCall0 fm__law_all_found (mCons (mVar 1) (mCons (mVar 0) (mCons (mVar 2) mNil)))))))
def fm__law_is_there : MF := fnM 3 ms__law_is_there
def ms__law_due : MS := (sSeq (sAsg (gNm 2) (mCall0 fm__law_steps (mCons (mVar 0) (mCons (mVar 1) mNil)))) (sSeq (sIf (mNotT (mT (mCall0 fm__law_is_there (mCons (mVar 0) (mCons (mVar 1) (mCons (m2 ixG (mVar 2) (m1 negG (mC (.int 1)))) mNil)))))) (sRet (mC .non)) sSkip) (sSeq (sPar [3, 4] (slM (mC (.int 0)) (slM (m2 subG (mB lenG (mCons (mVar 2) mNil)) (mC (.int 1))) slNil))) (sSeq (sWhile 30 (mT (m2 ltG (mVar 3) (mVar 4))) (sSeq (sAsg (gNm 5) (m2 divG (m2 addG (mVar 3) (mVar 4)) (mC (.int 2)))) (sIf (mT (mCall0 fm__law_is_there (mCons (mVar 0) (mCons (mVar 1) (mCons (m2 ixG (mVar 2) (mVar 5)) mNil))))) (sAsg (gNm 4) (mVar 5)) (sAsg (gNm 3) (m2 addG (mVar 5) (mC (.int 1))))))) (sRet (m2 ixG (mVar 2) (mVar 3)))))))
def fm__law_due : MF := fnM 6 ms__law_due
def ms_is_integer : MS := (sRet (mAnd (m1 (isiG "int") (mVar 0)) (mNot (m1 (isiG "bool") (mVar 0)))))
def fm_is_integer : MF := fnM 1 ms_is_integer
def ms_is_within : MS := (sRet (mAnd (mCall0 fm_is_integer (mCons (mVar 0) mNil)) (mCh leG leG (mVar 1) (mVar 0) (mVar 2))))
def fm_is_within : MF := fnM 3 ms_is_within
def ms_is_bar : MS := (sSeq (sIf (mOrT (mNotT (mT (m1 (isiG "tuple") (mVar 0)))) (mOrT (mT (m2 neG (mB lenG (mCons (mVar 0) mNil)) (mC (.int 2)))) (mNotT (mT (mCall0 fm_is_within (mCons (m2 ixG (mVar 0) (mC (.int 0))) (mCons (m1 negG (mC (.int 1000))) (mCons (mC (.int 1000)) mNil)))))))) (sRet (mC (.bl false))) sSkip) (sRet (mOr (m2 isG (m2 ixG (mVar 0) (mC (.int 1))) (mC .non)) (mCall0 fm_is_within (mCons (m2 ixG (mVar 0) (mC (.int 1))) (mCons (m2 addG (m2 ixG (mVar 0) (mC (.int 0))) (mC (.int 1))) (mCons (mC (.int 1000)) mNil)))))))
def fm_is_bar : MF := fnM 1 ms_is_bar
def ms_check_bars : MS := (sIf (mOrT (mNotT (mT (m1 (isi2G "list" "tuple") (mVar 0)))) (mOrT (mT (m2 gtG (mB lenG (mCons (mVar 0) mNil)) (mC (.int 20)))) (mNotT (mT (mB allG (mCons (mLc (mSeq (mVar 0)) (gNm 1) mYes (mCall0 fm_is_bar (mCons (mVar 1) mNil)) [1]) mNil)))))) sStuck sSkip)
def fm_check_bars : MF := fnM 2 ms_check_bars
def ms_is_long : MS := (sRet (mOr (m2 isG (m2 ixG (mVar 0) (mC (.int 1))) (mC .non)) (m2 gtG (m2 subG (m2 ixG (mVar 0) (mC (.int 1))) (m2 ixG (mVar 0) (mC (.int 0)))) (m2 mulG (mC (.int 2)) (mVar 1)))))
def fm_is_long : MF := fnM 2 ms_is_long
def ms_do_fit : MS := (sSeq (sIf (mOrT (mT (m2 gtG (mB absG (mCons (m2 subG (m2 ixG (mVar 0) (mC (.int 0))) (m2 ixG (mVar 1) (mC (.int 0)))) mNil)) (mVar 2))) (mT (m2 neG (m2 isG (m2 ixG (mVar 0) (mC (.int 1))) (mC .non)) (m2 isG (m2 ixG (mVar 1) (mC (.int 1))) (mC .non))))) (sRet (mC (.bl false))) sSkip) (sRet (mOr (m2 isG (m2 ixG (mVar 0) (mC (.int 1))) (mC .non)) (m2 leG (mB absG (mCons (m2 subG (m2 ixG (mVar 0) (mC (.int 1))) (m2 ixG (mVar 1) (mC (.int 1)))) mNil)) (mVar 2)))))
def fm_do_fit : MF := fnM 3 ms_do_fit
def ms_back_along : MS := (sSeq (sOwn 3 (mB dictG (mCons (mVar 1) mNil))) (sSeq (sAsg (gNm 4) (mVar 2)) (sSeq (sWhile 100 (mT (m2 isnG (mVar 4) (mC .non))) (sSeq (sAsg (gTp (gCn (gNm 5) (gCn (gNm 6) gNl))) (m2 dgetG (mVar 0) (mVar 4))) (sSeq (sDSet 3 (mVar 5) (mVar 4)) (sAsg (gNm 4) (mVar 6))))) (sFrz 3 (sRet (mVar 3))))))
def fm_back_along : MF := fnM 7 ms_back_along
def ms_way_from : MS := (sSeq (sAsg (gNm 5) (mDc (mItems (mVar 3)) (gTp (gCn (gNm 9) (gCn (gNm 11) gNl))) mYes (mVar 11) (mVar 9) [9, 11])) (sSeq (sPar [6, 7, 8] (slF (mC (.dK [] [])) (slF (mLst (mCons (mTup (mCons (mVar 4) (mCons (mC .non) mNil))) mNil)) (slF (mLst (mCons (mVar 4) mNil)) slNil)))) (sSeq (sWhile 100 (mT (m2 gtG (mB lenG (mCons (mOwn 7) mNil)) (mC (.int 0)))) (sSeq (sPop0 7 (gTp (gCn (gNm 9) (gCn (gNm 10) gNl)))) (sFor (mEnumA (mVar 1)) (gTp (gCn (gNm 11) (gCn (gNm 12) gNl))) (sSeq (sIf (mOrT (mT (m2 (inG false) (mVar 11) (mOwn 6))) (mNotT (mT (mCall0 fm_do_fit (mCons (m2 ixG (mVar 0) (mVar 9)) (mCons (mVar 12) (mCons (mVar 2) mNil))))))) sCt sSkip) (sSeq (sDSet 6 (mVar 11) (mTup (mCons (mVar 9) (mCons (mVar 10) mNil)))) (sSeq (sIf (mT (m2 (inG true) (mVar 11) (mVar 5))) (sFrz 6 (sRet (mTup (mCons (mCall0 fm_back_along (mCons (mVar 6) (mCons (mVar 3) (mCons (mVar 11) mNil)))) (mCons (mC .non) mNil))))) sSkip) (sSeq (sAsg (gNm 13) (m2 dgetG (mVar 5) (mVar 11))) (sSeq (sIf (mNotT (mT (mCall0 fm_is_long (mCons (m2 ixG (mVar 0) (mVar 13)) (mCons (mVar 2) mNil))))) (sSeq (sOwn 14 (mB dictG (mCons (mVar 3) mNil))) (sSeq (sDPop 14 (mVar 13)) (sFrz 14 (sFrz 6 (sRet (mTup (mCons (mCall0 fm_back_along (mCons (mVar 6) (mCons (mVar 14) (mCons (mVar 11) mNil)))) (mCons (mC .non) mNil)))))))) sSkip) (sSeq (sMeth 8 (mCons (mVar 13) mNil) appG) (sMeth 7 (mCons (mTup (mCons (mVar 13) (mCons (mVar 11) mNil))) mNil) appG)))))))))) (sRet (mTup (mCons (mC .non) (mCons (mB tupleG (mCons (mB sortedIG (mCons (mOwn 8) mNil)) mNil)) mNil)))))))
def fm_way_from : MF := fnM 15 ms_way_from
def ms_with_all : MS := (sSeq (sFor (mEnumA (mVar 0)) (gTp (gCn (gNm 4) (gCn (gNm 5) gNl))) (sIf (mAndT (mT (mCall0 fm_is_long (mCons (mVar 5) (mCons (mVar 2) mNil)))) (mT (m2 (inG true) (mVar 4) (mVar 3)))) (sSeq (sAsg (gTp (gCn (gNm 3) (gCn (gNm 6) gNl))) (mCall0 fm_way_from (mCons (mVar 0) (mCons (mVar 1) (mCons (mVar 2) (mCons (mVar 3) (mCons (mVar 4) mNil))))))) (sIf (mT (m2 isnG (mVar 6) (mC .non))) (sRet (mTup (mCons (mC .non) (mCons (mVar 6) mNil)))) sSkip)) sSkip)) (sRet (mTup (mCons (mVar 3) (mCons (mC .non) mNil)))))
def fm_with_all : MF := fnM 7 ms_with_all
def ms_paired_or_banned : MS := (sSeq (sAsg (gTp (gCn (gNm 3) (gCn (gNm 4) gNl))) (mCall0 fm_with_all (mCons (mVar 0) (mCons (mVar 1) (mCons (mVar 2) (mCons (mC (.dK [] [])) mNil)))))) (sSeq (sIf (mT (m2 isnG (mVar 4) (mC .non))) (sRet (mTup (mCons (mC .non) (mCons (mTup (mCons (mC (.int 0)) (mCons (mVar 4) mNil))) mNil)))) sSkip) (sSeq (sAsg (gTp (gCn (gNm 5) (gCn (gNm 4) gNl))) (mCall0 fm_with_all (mCons (mVar 1) (mCons (mVar 0) (mCons (mVar 2) (mCons (mDc (mItems (mVar 3)) (gTp (gCn (gNm 6) (gCn (gNm 7) gNl))) mYes (mVar 7) (mVar 6) [6, 7]) mNil)))))) (sSeq (sIf (mT (m2 isnG (mVar 4) (mC .non))) (sRet (mTup (mCons (mC .non) (mCons (mTup (mCons (mC (.int 1)) (mCons (mVar 4) mNil))) mNil)))) sSkip) (sRet (mTup (mCons (mB tupleG (mCons (mB sortedPG (mCons (mLc (mItems (mVar 5)) (gTp (gCn (gNm 7) (gCn (gNm 6) gNl))) mYes (mTup (mCons (mVar 6) (mCons (mVar 7) mNil))) [7, 6]) mNil)) mNil)) (mCons (mC .non) mNil))))))))
def fm_paired_or_banned : MF := fnM 8 ms_paired_or_banned
def ms_nearest : MS := (sSeq (sDrop (mCall0 fm_check_bars (mCons (mVar 0) mNil))) (sSeq (sDrop (mCall0 fm_check_bars (mCons (mVar 1) mNil))) (sSeq (sIf (mT (m2 isG (m2 ixG (mCall0 fm_paired_or_banned (mCons (mVar 0) (mCons (mVar 1) (mCons (mC (.int 2000)) mNil)))) (mC (.int 0))) (mC .non))) (sRet (mC .non)) sSkip) (sSeq (sPar [2, 3] (slM (m1 negG (mC (.int 1))) (slM (mC (.int 2000)) slNil))) (sSeq (sWhile 20 (mT (m2 gtG (m2 subG (mVar 3) (mVar 2)) (mC (.int 1)))) (sSeq (sAsg (gNm 4) (m2 divG (m2 addG (mVar 2) (mVar 3)) (mC (.int 2)))) (sIf (mT (m2 isG (m2 ixG (mCall0 fm_paired_or_banned (mCons (mVar 0) (mCons (mVar 1) (mCons (mVar 4) mNil)))) (mC (.int 0))) (mC .non))) (sAsg (gNm 2) (mVar 4)) (sAsg (gNm 3) (mVar 4))))) (sRet (mVar 3)))))))
def fm_nearest : MF := fnM 5 ms_nearest
def ms_check_within : MS := (sIf (mNotT (mT (mCall0 fm_is_within (mCons (mVar 0) (mCons (mVar 1) (mCons (mVar 2) mNil)))))) sStuck sSkip)
def fm_check_within : MF := fnM 3 ms_check_within
def ms_check_asked : MS := (sSeq (sDrop (mCall0 fm_check_bars (mCons (mVar 0) mNil))) (sSeq (sDrop (mCall0 fm_check_bars (mCons (mVar 1) mNil))) (sDrop (mCall0 fm_check_within (mCons (mVar 2) (mCons (mC (.int 0)) (mCons (mC (.int 2000)) mNil)))))))
def fm_check_asked : MF := fnM 3 ms_check_asked
def ms_pairing : MS := (sSeq (sDrop (mCall0 fm_check_asked (mCons (mVar 0) (mCons (mVar 1) (mCons (mVar 2) mNil))))) (sRet (m2 ixG (mCall0 fm_paired_or_banned (mCons (mVar 0) (mCons (mVar 1) (mCons (mVar 2) mNil)))) (mC (.int 0)))))
def fm_pairing : MF := fnM 3 ms_pairing
def ms_ban : MS := (sSeq (sDrop (mCall0 fm_check_asked (mCons (mVar 0) (mCons (mVar 1) (mCons (mVar 2) mNil))))) (sRet (m2 ixG (mCall0 fm_paired_or_banned (mCons (mVar 0) (mCons (mVar 1) (mCons (mVar 2) mNil)))) (mC (.int 1)))))
def fm_ban : MF := fnM 3 ms_ban
def ms__law_shuffled : MS := (sSeq (sPar [2, 3] (slF (mB listG (mCons (mVar 1) mNil)) (slF (mLst mNil) slNil))) (sSeq (sWhile 30 (mT (m2 gtG (mB lenG (mCons (mOwn 2) mNil)) (mC (.int 0)))) (sAppPop 3 2 (mCall0 fm__law_pick (mCons (mVar 0) (mCons (mB lenG (mCons (mOwn 2) mNil)) mNil))))) (sFrz 3 (sRet (mVar 3)))))
def fm__law_shuffled : MF := fnM 4 ms__law_shuffled
def ms__law_is_number : MS := (sRet (mAnd (m1 (isiG "int") (mVar 0)) (mAnd (mNot (m1 (isiG "bool") (mVar 0))) (mCh leG ltG (mC (.int 0)) (mVar 0) (mVar 1)))))
def fm__law_is_number : MF := fnM 2 ms__law_is_number
def ms__law_is_ban : MS := (sSeq (sIf (mOrT (mNotT (mT (m1 (isiG "tuple") (mVar 3)))) (mOrT (mT (m2 neG (mB lenG (mCons (mVar 3) mNil)) (mC (.int 2)))) (mOrT (mNotT (mT (mCall0 fm__law_is_number (mCons (m2 ixG (mVar 3) (mC (.int 0))) (mCons (mC (.int 2)) mNil))))) (mNotT (mT (m1 (isiG "tuple") (m2 ixG (mVar 3) (mC (.int 1))))))))) (sRet (mC (.bl false))) sSkip) (sSeq (sAsg (gTp (gCn (gNm 4) (gCn (gNm 5) gNl))) (mIf (mT (m2 eqG (m2 ixG (mVar 3) (mC (.int 0))) (mC (.int 0)))) (mTup (mCons (mVar 0) (mCons (mVar 1) mNil))) (mTup (mCons (mVar 1) (mCons (mVar 0) mNil))))) (sSeq (sPar [6, 7] (slM (m1 negG (mC (.int 1))) (slF (mLst mNil) slNil))) (sSeq (sFor (mSeq (m2 ixG (mVar 3) (mC (.int 1)))) (gNm 8) (sSeq (sIf (mOrT (mNotT (mT (mCall0 fm__law_is_number (mCons (mVar 8) (mCons (mB lenG (mCons (mVar 4) mNil)) mNil))))) (mOrT (mT (m2 leG (mVar 8) (mVar 6))) (mNotT (mT (mCall0 fm__law_is_long (mCons (m2 ixG (mVar 4) (mVar 8)) (mCons (mVar 2) mNil))))))) (sRet (mC (.bl false))) sSkip) (sSeq (sAsg (gNm 6) (mVar 8)) (sMeth 7 (mCons (m2 ixG (mVar 4) (mVar 8)) mNil) appG)))) (sSeq (sAsg (gNm 9) (mLc (mSeq (mVar 5)) (gNm 10) (mT (mB anyG (mCons (mLc (mSeq (mOwn 7)) (gNm 11) mYes (mCall0 fm__law_fits (mCons (mVar 11) (mCons (mVar 10) (mCons (mVar 2) mNil)))) [11]) mNil))) (mVar 10) [10])) (sRet (m2 ltG (mB lenG (mCons (mVar 9) mNil)) (mB lenG (mCons (m2 ixG (mVar 3) (mC (.int 1))) mNil)))))))))
def fm__law_is_ban : MF := fnM 12 ms__law_is_ban
def ms_is_number : MS := (sRet (mCall0 fm_is_within (mCons (mVar 0) (mCons (mC (.int 0)) (mCons (mVar 1) mNil)))))
def fm_is_number : MF := fnM 2 ms_is_number
def ms_is_lot : MS := (sSeq (sIf (mOrT (mNotT (mT (m1 (isiG "tuple") (mVar 0)))) (mNotT (mT (mB allG (mCons (mLc (mSeq (mVar 0)) (gNm 2) mYes (mCall0 fm_is_number (mCons (mVar 2) (mCons (m2 subG (mVar 1) (mC (.int 1))) mNil))) [2]) mNil))))) (sRet (mC (.bl false))) sSkip) (sRet (mB allG (mCons (mLc (mRg2 (mC (.int 1)) (mB lenG (mCons (mVar 0) mNil))) (gNm 3) mYes (m2 ltG (m2 ixG (mVar 0) (m2 subG (mVar 3) (mC (.int 1)))) (m2 ixG (mVar 0) (mVar 3))) [3]) mNil))))
def fm_is_lot : MF := fnM 4 ms_is_lot
def ms_is_ban : MS := (sSeq (sDrop (mCall0 fm_check_asked (mCons (mVar 0) (mCons (mVar 1) (mCons (mVar 2) mNil))))) (sSeq (sIf (mOrT (mNotT (mT (m1 (isiG "tuple") (mVar 3)))) (mOrT (mT (m2 neG (mB lenG (mCons (mVar 3) mNil)) (mC (.int 2)))) (mOrT (mNotT (mT (mCall0 fm_is_integer (mCons (m2 ixG (mVar 3) (mC (.int 0))) mNil)))) (mT (m2 (inG true) (m2 ixG (mVar 3) (mC (.int 0))) (mTup (mCons (mC (.int 0)) (mCons (mC (.int 1)) mNil)))))))) (sRet (mC (.bl false))) sSkip) (sSeq (sAsg (gTp (gCn (gNm 4) (gCn (gNm 5) gNl))) (mIf (mT (m2 eqG (m2 ixG (mVar 3) (mC (.int 0))) (mC (.int 0)))) (mTup (mCons (mVar 0) (mCons (mVar 1) mNil))) (mTup (mCons (mVar 1) (mCons (mVar 0) mNil))))) (sSeq (sIf (mOrT (mNotT (mT (mCall0 fm_is_lot (mCons (m2 ixG (mVar 3) (mC (.int 1))) (mCons (mB lenG (mCons (mVar 4) mNil)) mNil))))) (mNotT (mT (mB allG (mCons (mLc (mSeq (m2 ixG (mVar 3) (mC (.int 1)))) (gNm 6) mYes (mCall0 fm_is_long (mCons (m2 ixG (mVar 4) (mVar 6)) (mCons (mVar 2) mNil))) [6]) mNil))))) (sRet (mC (.bl false))) sSkip) (sRet (m2 ltG (mB lenG (mCons (mLc (mSeq (mVar 5)) (gNm 7) (mT (mB anyG (mCons (mLc (mSeq (m2 ixG (mVar 3) (mC (.int 1)))) (gNm 6) mYes (mCall0 fm_do_fit (mCons (m2 ixG (mVar 4) (mVar 6)) (mCons (mVar 7) (mCons (mVar 2) mNil)))) [6]) mNil))) (mVar 7) [7]) mNil)) (mB lenG (mCons (m2 ixG (mVar 3) (mC (.int 1))) mNil))))))))
def fm_is_ban : MF := fnM 8 ms_is_ban
def ms__law_is_pairing : MS := (sSeq (sIf (mNotT (mT (m1 (isiG "tuple") (mVar 3)))) (sRet (mC (.bl false))) sSkip) (sSeq (sPar [4, 5] (slM (m1 negG (mC (.int 1))) (slF (mLst mNil) slNil))) (sSeq (sFor (mSeq (mVar 3)) (gNm 6) (sSeq (sIf (mOrT (mNotT (mT (m1 (isiG "tuple") (mVar 6)))) (mOrT (mT (m2 neG (mB lenG (mCons (mVar 6) mNil)) (mC (.int 2)))) (mNotT (mT (mCall0 fm__law_is_number (mCons (m2 ixG (mVar 6) (mC (.int 0))) (mCons (mB lenG (mCons (mVar 0) mNil)) mNil))))))) (sRet (mC (.bl false))) sSkip) (sSeq (sIf (mOrT (mNotT (mT (mCall0 fm__law_is_number (mCons (m2 ixG (mVar 6) (mC (.int 1))) (mCons (mB lenG (mCons (mVar 1) mNil)) mNil))))) (mOrT (mT (m2 leG (m2 ixG (mVar 6) (mC (.int 0))) (mVar 4))) (mT (m2 (inG false) (m2 ixG (mVar 6) (mC (.int 1))) (mOwn 5))))) (sRet (mC (.bl false))) sSkip) (sSeq (sIf (mNotT (mT (mCall0 fm__law_fits (mCons (m2 ixG (mVar 0) (m2 ixG (mVar 6) (mC (.int 0)))) (mCons (m2 ixG (mVar 1) (m2 ixG (mVar 6) (mC (.int 1)))) (mCons (mVar 2) mNil)))))) (sRet (mC (.bl false))) sSkip) (sSeq (sAsg (gNm 4) (m2 ixG (mVar 6) (mC (.int 0)))) (sMeth 5 (mCons (m2 ixG (mVar 6) (mC (.int 1))) mNil) appG)))))) (sSeq (sAsg (gNm 7) (mLc (mSeq (mVar 3)) (gNm 6) mYes (m2 ixG (mVar 6) (mC (.int 0))) [6])) (sSeq (sIf (mT (mB anyG (mCons (mLc (mEnumL (mVar 0)) (gTp (gCn (gNm 8) (gCn (gNm 9) gNl))) (mT (m2 (inG true) (mVar 8) (mVar 7))) (mCall0 fm__law_is_long (mCons (mVar 9) (mCons (mVar 2) mNil))) [8, 9]) mNil))) (sRet (mC (.bl false))) sSkip) (sRet (mNot (mB anyG (mCons (mLc (mEnumL (mVar 1)) (gTp (gCn (gNm 8) (gCn (gNm 9) gNl))) (mT (m2 (inG true) (mVar 8) (mOwn 5))) (mCall0 fm__law_is_long (mCons (mVar 9) (mCons (mVar 2) mNil))) [8, 9]) mNil)))))))))
def fm__law_is_pairing : MF := fnM 10 ms__law_is_pairing
def ms_is_number_pair : MS := (sSeq (sIf (mOrT (mNotT (mT (m1 (isiG "tuple") (mVar 0)))) (mT (m2 neG (mB lenG (mCons (mVar 0) mNil)) (mC (.int 2))))) (sRet (mC (.bl false))) sSkip) (sRet (mAnd (mCall0 fm_is_number (mCons (m2 ixG (mVar 0) (mC (.int 0))) (mCons (m2 subG (mVar 1) (mC (.int 1))) mNil))) (mCall0 fm_is_number (mCons (m2 ixG (mVar 0) (mC (.int 1))) (mCons (m2 subG (mVar 2) (mC (.int 1))) mNil))))))
def fm_is_number_pair : MF := fnM 3 ms_is_number_pair
def ms_is_pairing : MS := (sSeq (sDrop (mCall0 fm_check_asked (mCons (mVar 0) (mCons (mVar 1) (mCons (mVar 2) mNil))))) (sSeq (sIf (mOrT (mNotT (mT (m1 (isiG "tuple") (mVar 3)))) (mNotT (mT (mB allG (mCons (mLc (mSeq (mVar 3)) (gNm 6) mYes (mCall0 fm_is_number_pair (mCons (mVar 6) (mCons (mB lenG (mCons (mVar 0) mNil)) (mCons (mB lenG (mCons (mVar 1) mNil)) mNil)))) [6]) mNil))))) (sRet (mC (.bl false))) sSkip) (sSeq (sIf (mNotT (mT (mB allG (mCons (mLc (mRg2 (mC (.int 1)) (mB lenG (mCons (mVar 3) mNil))) (gNm 7) mYes (m2 ltG (m2 ixG (m2 ixG (mVar 3) (m2 subG (mVar 7) (mC (.int 1)))) (mC (.int 0))) (m2 ixG (m2 ixG (mVar 3) (mVar 7)) (mC (.int 0)))) [7]) mNil)))) (sRet (mC (.bl false))) sSkip) (sSeq (sAsg (gNm 4) (mDc (mSeq (mVar 3)) (gTp (gCn (gNm 8) (gCn (gNm 9) gNl))) mYes (mVar 9) (mVar 8) [8, 9])) (sSeq (sIf (mOrT (mT (m2 ltG (mB lenG (mCons (mVar 4) mNil)) (mB lenG (mCons (mVar 3) mNil)))) (mNotT (mT (mB allG (mCons (mLc (mSeq (mVar 3)) (gTp (gCn (gNm 8) (gCn (gNm 9) gNl))) mYes (mCall0 fm_do_fit (mCons (m2 ixG (mVar 0) (mVar 8)) (mCons (m2 ixG (mVar 1) (mVar 9)) (mCons (mVar 2) mNil)))) [8, 9]) mNil))))) (sRet (mC (.bl false))) sSkip) (sSeq (sAsg (gNm 5) (mLc (mSeq (mVar 3)) (gTp (gCn (gNm 8) (gCn (gNm 9) gNl))) mYes (mVar 8) [8, 9])) (sSeq (sIf (mT (mB anyG (mCons (mLc (mEnumL (mVar 0)) (gTp (gCn (gNm 8) (gCn (gNm 10) gNl))) mYes (mAnd (mCall0 fm_is_long (mCons (mVar 10) (mCons (mVar 2) mNil))) (m2 (inG true) (mVar 8) (mVar 5))) [8, 10]) mNil))) (sRet (mC (.bl false))) sSkip) (sRet (mNot (mB anyG (mCons (mLc (mEnumL (mVar 1)) (gTp (gCn (gNm 9) (gCn (gNm 10) gNl))) mYes (mAnd (mCall0 fm_is_long (mCons (mVar 10) (mCons (mVar 2) mNil))) (m2 (inG true) (mVar 9) (mVar 4))) [9, 10]) mNil)))))))))))
def fm_is_pairing : MF := fnM 11 ms_is_pairing
def ms__law_right : MS := (sSeq (sIf (mOrT (mT (m2 eqG (m2 isG (mVar 3) (mC .non)) (m2 isG (mVar 4) (mC .non)))) (mT (m2 neG (m2 isnG (mVar 3) (mC .non)) (mCall0 fm__law_is_there (mCons (mVar 0) (mCons (mVar 1) (mCons (mVar 2) mNil))))))) (sRet (mC (.bl false))) sSkip) (sSeq (sIf (mT (m2 isnG (mVar 3) (mC .non))) (sRet (mAnd (mCall0 fm__law_is_pairing (mCons (mVar 0) (mCons (mVar 1) (mCons (mVar 2) (mCons (mVar 3) mNil))))) (mCall0 fm_is_pairing (mCons (mVar 0) (mCons (mVar 1) (mCons (mVar 2) (mCons (mVar 3) mNil))))))) sSkip) (sRet (mAnd (mCall0 fm__law_is_ban (mCons (mVar 0) (mCons (mVar 1) (mCons (mVar 2) (mCons (mVar 4) mNil))))) (mCall0 fm_is_ban (mCons (mVar 0) (mCons (mVar 1) (mCons (mVar 2) (mCons (mVar 4) mNil)))))))))
def fm__law_right : MF := fnM 5 ms__law_right
def ms_law : MS := (sSeq (sAsg (gNm 2) (mIf (mT (m2 eqG (mCall0 fm__law_pick (mCons (mVar 1) (mCons (mC (.int 5)) mNil))) (mC (.int 3)))) (mC (.int 20)) (mC (.int 5)))) (sSeq (sAsg (gTp (gCn (gNm 3) (gCn (gNm 4) gNl))) (mCall0 fm__law_lists (mCons (mVar 1) (mCons (mCall0 fm__law_some (mCons (mVar 1) (mCons (mLst (mCons (mC (.int 15)) (mCons (mC (.int 6)) (mCons (mC (.int 1000)) mNil)))) mNil))) (mCons (mVar 2) mNil))))) (sSeq (sAsg (gNm 5) (mCall0 fm__law_due (mCons (mVar 3) (mCons (mVar 4) mNil)))) (sSeq (sFor (mSeq (mTup (mCons (mCall0 fm_nearest (mCons (mVar 3) (mCons (mVar 4) mNil))) (mCons (mCall0 fm_nearest (mCons (mB tupleG (mCons (mVar 4) mNil)) (mCons (mVar 3) mNil))) mNil)))) (gNm 6) (sIf (mOrT (mT (m2 neG (m2 isG (mVar 6) (mC .non)) (m2 isG (mVar 5) (mC .non)))) (mOrT (mT (m1 (isiG "bool") (mVar 6))) (mT (m2 neG (mVar 6) (mVar 5))))) (sRet (mC (.bl false))) sSkip)) (sSeq (sIf (mT (m2 isG (mVar 5) (mC .non))) (sRet (mAnd (m2 isG (mCall0 fm_pairing (mCons (mVar 3) (mCons (mVar 4) (mCons (mC (.int 2000)) mNil)))) (mC .non)) (m2 isnG (mCall0 fm_ban (mCons (mVar 3) (mCons (mVar 4) (mCons (mC (.int 2000)) mNil)))) (mC .non)))) sSkip) (sSeq (sIf (mOrT (mT (m2 isG (mCall0 fm_pairing (mCons (mVar 3) (mCons (mVar 4) (mCons (mVar 5) mNil)))) (mC .non))) (mT (m2 isnG (mCall0 fm_ban (mCons (mVar 3) (mCons (mVar 4) (mCons (mVar 5) mNil)))) (mC .non)))) (sRet (mC (.bl false))) sSkip) (sSeq (sIf (mAndT (mT (m2 gtG (mVar 5) (mC (.int 0)))) (mOrT (mT (m2 isnG (mCall0 fm_pairing (mCons (mVar 3) (mCons (mVar 4) (mCons (m2 subG (mVar 5) (mC (.int 1))) mNil)))) (mC .non))) (mT (m2 isG (mCall0 fm_ban (mCons (mVar 3) (mCons (mVar 4) (mCons (m2 subG (mVar 5) (mC (.int 1))) mNil)))) (mC .non))))) (sRet (mC (.bl false))) sSkip) (sRet (m2 eqG (mCall0 fm_nearest (mCons (mVar 3) (mCons (mCall0 fm__law_shuffled (mCons (mVar 1) (mCons (mVar 3) mNil))) mNil))) (mC (.int 0)))))))))))
structure Tp (P : Program) (w : World) (K : PySem.W.Frag) (mg : Str → Option Value) (base : Heap) : Prop where
  m_abs : mg "abs" = none
  m_all : mg "all" = none
  m_bool : mg "bool" = none
  m_dict : mg "dict" = none
  m_enumerate : mg "enumerate" = none
  m_int : mg "int" = none
  m_isinstance : mg "isinstance" = none
  m_len : mg "len" = none
  m_list : mg "list" = none
  m_max : mg "max" = none
  m_min : mg "min" = none
  m_range : mg "range" = none
  m_sorted : mg "sorted" = none
  m_tuple : mg "tuple" = none
  c_FARTHEST : ∃ t, mg "FARTHEST" = some (.int 1000 t)
  c_MOST_BARS : ∃ t, mg "MOST_BARS" = some (.int 20 t)
  c_MOST_DISTANCE : ∃ t, mg "MOST_DISTANCE" = some (.int 2000 t)
section
variable {P : Program} {w : World} {K : PySem.W.Frag} {mg : Str → Option Value} {base : Heap}
theorem sc__law_bag : FnScope ["_law_script", "_law_great", "_law_seed", "_law_cell"] ["_law_script"] (defScope s__law_bag) := ⟨rfl, rfl, rfl, by decide +kernel, rfl, by decide +kernel, by decide +kernel⟩
theorem sc__law_pick : FnScope ["_law_bag_here", "_law_many", "_law_number"] ["_law_bag_here", "_law_many"] (defScope s__law_pick) := ⟨rfl, rfl, rfl, by decide +kernel, rfl, by decide +kernel, by decide +kernel⟩
set_option maxHeartbeats 4000000 in
theorem ok__law_pick (tp : Tp P w K mg base) (dd : DefAt K mg "_law_pick" s__law_pick ["_law_bag_here", "_law_many"]) : F0 P w K mg base "_law_pick" 1 2 fm__law_pick := by
  obtain ⟨f, fd, F, hm, hb⟩ := dd
  have nd := sc__law_pick.nd
  refine ⟨f, fd, _, hm, F.kp, hb, F.ok sc__law_pick (fun vs H Q E h => ?_) fun cdv A outer s H vs Q E hr h => ?_⟩
  · obtain ⟨pb, pg, G, b, ds, w, r, hl, q⟩ := h
    rw [← r.len, hl]
    rfl
  obtain ⟨pb, pg, G, b, ds, w, r, hl, q⟩ := h
  obtain ⟨n, rfl, hn⟩ : ∃ n, ds = [.bag, .int n] ∧ 0 < n ∧ n < 1073741824 := by
    show ∃ n, _
    unfold fm__law_pick fm_pick at q
    split at q
    · rename_i n
      split at q
      · exact ⟨n, rfl, by assumption⟩
      · exact q.elim
    · exact q.elim
  have q : PstG (cx K mg pb pg) E0 G H (pM (cx K mg pb pg)) Q (.ok (.int (pickF b n).1) (pickF b n).2) := by
    unfold fm__law_pick fm_pick at q
    dsimp only at q
    rw [if_pos hn] at q
    exact q
  obtain ⟨v1, w1, rfl, r1, v2, w2, rfl, r2, rn⟩ := r
  cases (show w2 = [] from rn)
  cases (show v1 = .ref pb from r1)
  cases (show v2 = .int n from r2)
  have B : ∀ {X : Cx} {p1 p2 p3 : Pos} {i : Int} {j : Nat} (hN : X.N[0]? = some ("_law_bag_here" : Str)) (hv : Vis X.env.scope "_law_bag_here"), PE X (.Subscript (.Name "_law_bag_here" p1) (.Constant (.int i) j p2) p3) (tOp (rIxL X.K) (tVar 0) (tC (.int i))) := fun hN hv => pe_ix ix_list (pe_var hN hv) pe_int (fun _ _ => rfl)
  refine ⟨_, pss_cons (ps_if (pt_cmpR op_eq (B rfl (.inl rfl)) pe_int (nomark _)) (pss_one (ps_ret pe_int)) pss_nil)
    (pss_cons (ps_if (pt_cmpR op_gt (pe_callB call_len_seq (by rfl) tp.m_len PySem.boot_len (pa_cons (B rfl (.inl rfl)) pa_nil)) pe_int (nomark _))
      (pss_cons (ps_set (i := 2) nd rfl (.inl rfl) (pe_ix ix_list (B rfl (.inl rfl)) pe_int (fun _ _ => rfl)))
        (pss_cons (ps_asg (pe_op op_fdiv (pv 2) (pv 1)) (pg_sub (B rfl (.inl rfl)) pe_int set_list))
        (pss_cons (ps_if (pt_cmpR op_lt (pv 2) (pv 1) (nomark _)) (pss_one (ps_expr (pe_bm PySem.F.plainAttrs_list PySem.F.slot_list_pop PySem.F.type_list_pop mt_popAt (B rfl (.inl rfl)) (pa_cons pe_int pa_nil)))) pss_nil)
        (pss_one (ps_ret (pe_op op_mod (pe_callTy call_int1 (by rfl) tp.m_int (by decide +kernel) (pa_cons (pv 2) pa_nil)) (pv 1))))))) pss_nil)
    (pss_cons (ps_asg (pe_op op_add (B rfl (.inl rfl)) pe_int) (pg_sub (pv 0) pe_int set_list))
    (pss_cons (ps_set (i := 2) nd rfl (.inl rfl) (pe_op op_mod (pe_callTy call_int1 (by rfl) tp.m_int (by decide +kernel) (pa_cons (pe_op op_add (pe_op op_mul (pe_op op_add (B rfl (.inl rfl)) (pe_op op_mul pe_int (B rfl (.inl rfl)))) pe_int) pe_int) pa_nil)) pe_int))
    (pss_cons (ps_set (i := 2) nd rfl (.inl rfl) (pe_op op_mod (pe_callTy call_int1 (by rfl) tp.m_int (by decide +kernel) (pa_cons (pe_op op_add (pe_op op_mul (pv 2) (pe_op op_add (pe_op op_fdiv (pv 2) pe_int) pe_int)) (B rfl (.inl rfl))) pa_nil)) pe_int))
    (pss_cons (ps_asg (pe_op op_mod (pe_callTy call_int1 (by rfl) tp.m_int (by decide +kernel) (pa_cons (pe_op op_add (B rfl (.inl rfl)) (pv 2)) pa_nil)) pe_int) (pg_sub (pv 0) pe_int set_list))
    (pss_one (ps_ret (pe_op op_mod (pe_callTy call_int1 (by rfl) tp.m_int (by decide +kernel) (pa_cons (pe_op op_fdiv (pv 2) pe_int) pa_nil)) (pv 1))))))))), ?_⟩
  have hne : pb ≠ pg := w.ne
  have u1 : upd H pb (.lst [.ref pg, .int b.seed, .int b.len, .int b.cnt]) = H := by
    funext a
    by_cases e : a = pb
    · rw [e, upd_same]; exact w.hb.symm
    · rw [upd_ne e]
  -- bag[2] == 0
  refine ⟨.ref pb, rfl, pb, _, 2, .int b.len, rfl, rfl, w.lb, atI_nat (j := 2) rfl, rfl, _, rfl, ite2 (fun e => ?_) (fun e => ?_)⟩
  · have e : V.int b.len = V.int 0 := of_decide_eq_true e
    have e : b.len = 0 := V.int.inj e
    have hp : pickF b n = (0, b) := by unfold pickF; rw [if_pos e]
    rw [hp] at q
    exact q (.int 0) G H (Stp.refl _ _ _) w rfl
  have hlen : b.len ≠ 0 := fun z => e (by rw [z]; exact decide_eq_true rfl)
  -- len(bag[0]) > 0
  refine ⟨.ref pb, rfl, pb, _, 0, .ref pg, rfl, rfl, w.lb, atI_nat (j := 0) rfl, pg, b.great.map V.int, rfl, .inl w.lg, _, 0, rfl, rfl, _, rfl, ite2 (fun e => ?_) (fun e => ?_)⟩
  · have e := of_decide_eq_true e
    obtain ⟨g, gs, hgs⟩ : ∃ g gs, b.great = g :: gs := by
      cases hb : b.great with
      | nil => rw [hb] at e; simp at e
      | cons g gs => exact ⟨g, gs, rfl⟩
    have hp : pickF b n = (g % n, { b with great := if g < n then gs else (g / n) :: gs }) := by
      unfold pickF
      rw [if_neg hlen, hgs]
    rw [hp] at q
    have hg0 : (b.great.map V.int)[0]? = some (.int g) := by rw [hgs]; rfl
    refine ⟨.ref pb, rfl, pb, _, 0, .ref pg, rfl, rfl, w.lb, atI_nat (j := 0) rfl, pg, _, 0, .int g, rfl, rfl, w.lg, atI_nat (j := 0) hg0, ?_⟩
    refine ⟨.int g, rfl, .int n, rfl, g, n, rfl, rfl, hn, .ref pb, rfl, pb, _, 0, .ref pg, rfl, rfl, w.lb, atI_nat (j := 0) rfl, ?_⟩
    refine ⟨pg, b.great.map V.int, 0, 0, rfl, rfl, w.hg, ?_, ?_⟩
    · rw [hgs]; simp [ixN]
    have hset : (b.great.map V.int).set 0 (.int (g / n)) = ((g / n) :: gs).map V.int := by rw [hgs]; rfl
    rw [hset]
    have hz : ((g / n) :: gs).length ≤ 63 := by have := w.bz; rw [hgs] at this; simpa using this
    obtain ⟨s2, w2⟩ := w.bagG ((g / n) :: gs) hz
    refine ⟨.int g, rfl, .int n, rfl, g, n, rfl, rfl, _, rfl, ite2 (fun e2 => ?_) (fun e2 => ?_)⟩
    · have e2 := of_decide_eq_true e2
      rw [if_pos e2] at q
      have hz3 : gs.length ≤ 63 := by simp at hz; omega
      refine ⟨.ref pb, rfl, pb, _, 0, .ref pg, rfl, rfl, w2.lb, atI_nat (j := 0) rfl, .inl ⟨rfl, _, w2.lg⟩, pg, ((g / n) :: gs).map V.int, 0, 0, .int (g / n), rfl, rfl, w2.hg, by decide, by decide, ?_, rfl, ?_⟩
      · simp [seqIndex?]
      obtain ⟨s3, w3⟩ := w2.bagG gs hz3
      have he : (((g / n) :: gs).map V.int).eraseIdx 0 = gs.map V.int := rfl
      rw [he]
      exact ⟨.int g, rfl, .inl ⟨g, rfl, .int n, rfl, g, n, rfl, rfl, hn.1, q _ G _ (s2.trans s3) w3 rfl⟩⟩
    · have e2 : ¬ g < n := fun z => e2 (decide_eq_true z)
      rw [if_neg e2] at q
      exact ⟨.int g, rfl, .inl ⟨g, rfl, .int n, rfl, g, n, rfl, rfl, hn.1, q _ G _ s2 w2 rfl⟩⟩
  · have hgs : b.great = [] := by
      cases hb : b.great with
      | nil => rfl
      | cons g gs => exact absurd (decide_eq_true (by rw [hb]; simp)) e
    have hp : pickF b n = ((((((b.seed + 7919 * (b.cnt + 1)) * 48271 + 11) % 2147483647) * ((((b.seed + 7919 * (b.cnt + 1)) * 48271 + 11) % 2147483647) / 1009 + 69621) + (b.cnt + 1)) % 2147483399) / 16 % n,
        { b with seed := (b.seed + ((((b.seed + 7919 * (b.cnt + 1)) * 48271 + 11) % 2147483647) * ((((b.seed + 7919 * (b.cnt + 1)) * 48271 + 11) % 2147483647) / 1009 + 69621) + (b.cnt + 1)) % 2147483399) % 2147483629, cnt := b.cnt + 1 }) := by
      unfold pickF
      rw [if_neg hlen, hgs]
    rw [hp] at q
    obtain ⟨s2, w2⟩ := w.bag1 b.seed (b.cnt + 1)
    refine ⟨.ref pb, rfl, pb, _, 3, .int b.cnt, rfl, rfl, w.lb, atI_nat (j := 3) rfl, _, 1, rfl, rfl, .ref pb, rfl, pb, _, 3, 3, rfl, rfl, w.hb, rfl, ?_⟩
    -- number
    refine ⟨.ref pb, rfl, pb, _, 1, .int b.seed, rfl, rfl, w2.lb, atI_nat (j := 1) rfl, .ref pb, rfl, pb, _, 3, .int (b.cnt + 1), rfl, rfl, w2.lb, atI_nat (j := 3) rfl, 7919, _, rfl, rfl, .inl ⟨by decide, by decide⟩, _, _, rfl, rfl, _, 48271, rfl, rfl, .inr ⟨by decide, by decide⟩, _, 11, rfl, rfl, .inl ⟨_, rfl, _, 2147483647, rfl, rfl, (show (0:Int) < 2147483647 by decide), ?_⟩⟩
    dsimp only
    generalize hx1 : ((b.seed + 7919 * (b.cnt + 1)) * 48271 + 11) % 2147483647 = x1 at q ⊢
    have hx1b : 0 ≤ x1 ∧ x1 < 2147483647 := by rw [← hx1]; exact ⟨Int.emod_nonneg _ (by decide), Int.emod_lt_of_pos _ (by decide)⟩
    refine ⟨.int x1, rfl, .int x1, rfl, x1, 1009, rfl, rfl, ⟨by decide, by decide⟩, _, 69621, rfl, rfl, x1, _, rfl, rfl, .inl ⟨by omega, by omega⟩, .ref pb, rfl, pb, _, 3, .int (b.cnt + 1), rfl, rfl, w2.lb, atI_nat (j := 3) rfl, _, _, rfl, rfl, .inl ⟨_, rfl, _, 2147483399, rfl, rfl, (show (0:Int) < 2147483399 by decide), ?_⟩⟩
    dsimp only
    generalize hx2 : (x1 * (x1 / 1009 + 69621) + (b.cnt + 1)) % 2147483399 = x2 at q ⊢
    refine ⟨.ref pb, rfl, pb, _, 1, .int b.seed, rfl, rfl, w2.lb, atI_nat (j := 1) rfl, .int x2, rfl, _, x2, rfl, rfl, .inl ⟨_, rfl, _, 2147483629, rfl, rfl, (show (0:Int) < 2147483629 by decide), .ref pb, rfl, pb, _, 1, 1, rfl, rfl, w2.hb, rfl, ?_⟩⟩
    obtain ⟨s3, w3⟩ := w2.bag1 ((b.seed + x2) % 2147483629) (b.cnt + 1)
    exact ⟨.int x2, rfl, x2, 16, rfl, rfl, ⟨by decide, by decide⟩, .inl ⟨_, rfl, .int n, rfl, _, n, rfl, rfl, hn.1, q _ G _ (s2.trans s3) w3 rfl⟩⟩
set_option maxHeartbeats 4000000 in
theorem ok__law_bag {f : Addr} {fd : FuncData} {k : Nat} (tp : Tp P w K mg base) (ma : mg "abs" = none) (F : Fun K "_law_bag" "_law_bag" s__law_bag f fd) : FnOk P w K mg base CX0 (k + 1) f fd ["_law_script"] (spBag K) := by
  have nd := sc__law_bag.nd
  refine F.ok sc__law_bag (fun vs H Q E h => ?_) (fun cdv A outer s H vs Q E hr h => ?_)
  · obtain ⟨a, ns, rfl, _⟩ := h
    rfl
  · obtain ⟨a, ns, rfl, hS, hlen, q⟩ := h
    refine ⟨_, pss_cons (ps_setLc (i := 1) rfl nd rfl rfl (by rfl) (pi_list (pe_slice sl_list (pv 0) po_none (po_some pe_int))) (blkOk_by (own := [("_law_cell", 3)]) (by kernel_rfl)) (fun _ _ _ _ _ => pg_name (i := 3) nd rfl (by first | exact .inl rfl | exact .inr rfl))
          (fun _ _ _ _ _ => pts_one (pt_cmpR op_ge (pe_callB call_abs (by rfl) ma (by decide +kernel) (pa_cons (pe_callTy call_int1 (by rfl) tp.m_int (by decide +kernel) (pa_cons (pv 3) pa_nil)) pa_nil)) (pe_op op_pow pe_int pe_int) (nomark _)))
          (fun _ _ _ _ _ => pe_callB call_abs (by rfl) ma (by decide +kernel) (pa_cons (pe_callTy call_int1 (by rfl) tp.m_int (by decide +kernel) (pa_cons (pv 3) pa_nil)) pa_nil)))
      (pss_cons (ps_set (i := 2) nd rfl (.inl rfl) pe_int)
      (pss_cons (ps_for PassesOwn.never rfl (pi_list (pe_slice sl_list (pv 0) po_none (po_some pe_int))) (pg_name (i := 3) nd rfl (.inl rfl))
        (pss_one (ps_set (i := 2) nd rfl (.inl rfl) (pe_op op_mod (pe_callTy call_int1 (by rfl) tp.m_int (by decide +kernel) (pa_cons (pe_op op_add (pe_op op_add (pe_op op_add (pe_op op_mul (pv 2) pe_int) (pe_op op_mul (pe_callB call_abs (by rfl) ma (by decide +kernel) (pa_cons (pe_callTy call_int1 (by rfl) tp.m_int (by decide +kernel) (pa_cons (pv 3) pa_nil)) pa_nil)) pe_int)) (pe_callTy call_int1 (by rfl) tp.m_int (by decide +kernel) (pa_cons (pe_cmpR op_lt (pe_callTy call_int1 (by rfl) tp.m_int (by decide +kernel) (pa_cons (pv 3) pa_nil)) pe_int (nomark _)) pa_nil))) pe_int) pa_nil)) pe_int))))
      (pss_one (ps_ret (pe_lst (pa_cons (pv 1) (pa_cons (pv 2) (pa_cons (pe_callB call_len_seq (by rfl) tp.m_len (by decide +kernel) (pa_cons (pv 0) pa_nil)) (pa_cons pe_int pa_nil))))))))), ?_⟩
    refine ⟨.ref a, rfl, 63, rfl, a, ns.map V.int, rfl, hS, fun p np => ?_⟩
    rw [cut63 hlen]
    have hS1 : SqL K (upd H p (.lst (ns.map V.int))) a (ns.map V.int) := Same.seq (fun b x e => by rw [upd_ne (ne_of_none e np)]; exact e) hS
    have hp1 : (upd H p (.lst (ns.map V.int))) p = some (.lst (ns.map V.int)) := upd_same
    have sm0 : Same H (upd H p (.lst (ns.map V.int))) := fun b x e => by rw [upd_ne (ne_of_none e np)]; exact e
    have hN : ∀ b : Addr, (upd H p (.lst (ns.map V.int))) b = none → H b = none := fun b e => Classical.byContradiction fun z => by
      by_cases h : b = p
      · rw [h, upd_same] at e; cases e
      · rw [upd_ne h] at e; exact z e
    generalize (upd H p (.lst (ns.map V.int))) = H1 at hS1 hp1 sm0 hN ⊢
    refine ⟨p, rfl, ⟨_, .inl (.inl hp1)⟩, fun D nD => ?_⟩
    have nDp : p ≠ D := fun e => by rw [← e, hp1] at nD; cases nD
    refine ⟨fun i m H3 => i + m = ns.length ∧ (∃ gr : List Int, H3 D = some (.lst (gr.map V.int)) ∧ gr.length ≤ i) ∧ ∀ b x, b ≠ D → H1 b = some x → H3 b = some x, ⟨ns.length, by omega, ⟨[], by rw [upd_same]; rfl, by simp⟩, fun b x nb e => by rw [upd_ne nb]; exact e⟩, fun i m H3 hW => ?_⟩
    obtain ⟨em, ⟨gr, hgr, hgl⟩, sm⟩ := hW
    have hP : SqL K H3 p (ns.map V.int) := .inl (.inl (sm _ _ nDp hp1))
    by_cases hi : i < ns.length
    · have g1 : (ns.map V.int)[i]? = some (.int ns[i]) := by
        rw [List.getElem?_map, List.getElem?_eq_getElem hi]
        rfl
      refine .inr ⟨⟨_, _, hP, g1⟩, fun H' => (∃ gr : List Int, H' D = some (.lst (gr.map V.int)) ∧ gr.length ≤ i + 1) ∧ ∀ b x, b ≠ D → H1 b = some x → H' b = some x, fun H' hN => ⟨m - 1, by omega, by omega, hN.1, hN.2⟩, fun x H' hy => ?_⟩
      obtain ⟨rfl, fx⟩ := hy
      cases (fx _ hP).symm.trans g1
      refine ⟨rfl, _, rfl, .inl ⟨_, rfl, _, rfl, 10, 18, rfl, rfl, ⟨by decide, by decide, by decide⟩, _, _, rfl, rfl, _, rfl, ?_⟩⟩
      refine ite2 (fun e => ?_) (fun e => ?_)
      · refine ⟨_, rfl, .inl ⟨_, rfl, _, rfl, gr.map V.int, hgr, lit_le (by omega), ?_⟩⟩
        exact ⟨⟨gr ++ [if ns[i] < 0 then -ns[i] else ns[i]], by rw [upd_same, List.map_append]; rfl, by rw [List.length_append]; simp; omega⟩, fun b x nb e => by rw [upd_ne nb]; exact sm b x nb e⟩
      · exact ⟨⟨gr, hgr, by omega⟩, sm⟩
    · refine .inl ⟨⟨_, hP, by rw [List.length_map]; omega⟩, ?_⟩
      have hgz : gr.length ≤ 63 := by omega
      have sm3 : Same H H3 := fun b x e => sm b x (fun z => by rw [z, hN D nD] at e; cases e) (sm0 b x e)
      have hS3 : SqL K H3 a (ns.map V.int) := sm3.seq hS
      have hDn : H D = none := hN D nD
      refine ⟨.ref a, rfl, 63, rfl, a, ns.map V.int, rfl, hS3, fun p2 np2 => ?_⟩
      rw [cut63 hlen]
      have sm4 : Same H3 (upd H3 p2 (.lst (ns.map V.int))) := fun b x e => by rw [upd_ne (ne_of_none e np2)]; exact e
      have hp2 : (upd H3 p2 (.lst (ns.map V.int))) p2 = some (.lst (ns.map V.int)) := upd_same
      generalize (upd H3 p2 (.lst (ns.map V.int))) = H4 at sm4 hp2 ⊢
      have hP4 : SqL K H4 p2 (ns.map V.int) := .inl (.inl hp2)
      refine ⟨p2, rfl, ⟨_, hP4⟩, fun i m σ H5 => ∃ sd y3, σ = [some (.ref a), some (.ref D), some (.int sd), y3] ∧ i + m = ns.length ∧ H5 = H4, ⟨ns.length, _, none, rfl, by omega, rfl⟩, fun i m σ H5 hW => ?_⟩
      obtain ⟨sd, y3, rfl, em5, rfl⟩ := hW
      by_cases hi5 : i < ns.length
      · have g1 : (ns.map V.int)[i]? = some (.int ns[i]) := by
          rw [List.getElem?_map, List.getElem?_eq_getElem hi5]
          rfl
        refine .inr ⟨⟨_, _, hP4, g1⟩, fun σ' H' => ∃ sd y3, σ' = [some (.ref a), some (.ref D), some (.int sd), y3] ∧ H' = H5, fun σ' H' ⟨sd, y3, e1, e2⟩ => ⟨m - 1, by omega, sd, y3, e1, by omega, e2⟩, fun x H' hy => ?_⟩
        obtain ⟨rfl, fx⟩ := hy
        cases (fx _ hP4).symm.trans g1
        refine ⟨_, rfl, _, _, rfl, rfl, .inr ⟨by decide, by decide⟩, _, rfl, .inl ⟨_, rfl, _, rfl, _, _, rfl, rfl, .inr ⟨by decide, by decide⟩, _, _, rfl, rfl, _, rfl, .inl ⟨_, rfl, _, _, rfl, rfl, .inr ⟨_, rfl, _, _, rfl, rfl, _, _, rfl, rfl, .inl ⟨_, rfl, _, _, rfl, rfl, (show (0 : Int) < 2147483629 by decide), ?_⟩⟩⟩⟩⟩
        exact ⟨_, _, rfl, rfl⟩
      · refine .inl ⟨⟨_, hP4, by rw [List.length_map]; omega⟩, ?_⟩
        have hS5 : SqL K H5 a (ns.map V.int) := sm4.seq hS3
        refine ⟨.ref D, rfl, _, rfl, .ref a, rfl, a, _, rfl, .inl hS5, ?_⟩
        refine ⟨(show 4 ≤ sizeLine by rw [sizeLine_eq]; decide), fun pb npb => ?_⟩
        have e5 : H5 D = some (.lst (gr.map V.int)) := sm4 D _ hgr
        have nb : D ≠ pb := ne_of_none e5 npb
        have hb0 : H pb = none := Classical.byContradiction fun z => by
          cases hx : H pb with
          | none => exact z hx
          | some x => rw [sm4 _ _ (sm3 _ _ hx)] at npb; cases npb
        exact q _ pb D gr sd _ hb0 hDn (fun z => nb z.symm) upd_same (by rw [upd_ne nb]; exact e5) hgz
theorem sc__law_some : FnScope ["_law_bag_here", "_law_things"] ["_law_bag_here", "_law_things"] (defScope s__law_some) := ⟨rfl, rfl, rfl, by decide +kernel, rfl, by decide +kernel, by decide +kernel⟩
set_option maxHeartbeats 4000000 in
theorem ok__law_some (tp : Tp P w K mg base) (dd : DefAt K mg "_law_some" s__law_some ["_law_bag_here", "_law_things"]) (F__law_pick : F0 P w K mg base "_law_pick" 1 2 fm__law_pick) : F0 P w K mg base "_law_some" 2 2 fm__law_some := by
  obtain ⟨f, fd, F, hm, hb⟩ := dd
  refine fn_ok0 F sc__law_some hm hb fun cdv A outer s H E hr => ?_
  have nd := sc__law_some.nd
  have hu := hu_of65 hr
  have hu64 := hu_of64 hr
  exact (ds_one (ds_ret (de_ix ((de_var 1)).v ((de_call0 F__law_pick hr (by rfl) (da_cons (de_var 0) (da_cons (de_callB call_lenG (by rfl) tp.m_len (by decide +kernel) (dw_cons ((de_var 1)).v dw_nil)) da_nil)) (cntA_cons (cntA_cons cntA_nil)))).v)))
theorem sc__law_bar : FnScope ["_law_bag_here", "_law_wide", "_law_born"] ["_law_bag_here", "_law_wide"] (defScope s__law_bar) := ⟨rfl, rfl, rfl, by decide +kernel, rfl, by decide +kernel, by decide +kernel⟩
set_option maxHeartbeats 4000000 in
theorem ok__law_bar (tp : Tp P w K mg base) (dd : DefAt K mg "_law_bar" s__law_bar ["_law_bag_here", "_law_wide"]) (F__law_pick : F0 P w K mg base "_law_pick" 1 2 fm__law_pick) (F__law_some : F0 P w K mg base "_law_some" 2 2 fm__law_some) : F0 P w K mg base "_law_bar" 3 2 fm__law_bar := by
  obtain ⟨f, fd, F, hm, hb⟩ := dd
  refine fn_ok0 F sc__law_bar hm hb fun cdv A outer s H E hr => ?_
  have nd := sc__law_bar.nd
  have hu := hu_of65 hr
  have hu64 := hu_of64 hr
  exact (ds_cons (ds_set 2 (de_op op_subG ((de_call0 F__law_pick hr (by rfl) (da_cons (de_var 0) (da_cons (de_op op_addG ((de_op op_mulG (de_int).v ((de_var 1)).v)).v (de_int).v) da_nil)) (cntA_cons (cntA_cons cntA_nil)))).v ((de_var 1)).v) nd) (ds_cons (ds_if (dw_t (dw_or (dt_cmp (op_eqG hu64) ((de_call0 F__law_pick hr (by rfl) (da_cons (de_var 0) (da_cons de_int da_nil)) (cntA_cons (cntA_cons cntA_nil)))).v (de_int).v) (dw_or1 (dt_cmp (op_eqG hu64) ((de_var 2)).v ((de_var 1)).v)))) (ds_one (ds_ret (de_tup (da_cons (de_callB (call_min2G rfl) (by rfl) tp.m_min (by decide +kernel) (dw_cons ((de_var 2)).v (dw_cons (de_int).v dw_nil))) (da_cons de_non da_nil))))) ds_nil) (ds_one (ds_ret (de_tup (da_cons (de_var 2) (da_cons (de_op op_addG ((de_op op_addG ((de_var 2)).v (de_int).v)).v ((de_call0 F__law_pick hr (by rfl) (da_cons (de_var 0) (da_cons (de_callB (call_min2G rfl) (by rfl) tp.m_min (by decide +kernel) (dw_cons ((de_op op_subG ((de_var 1)).v ((de_var 2)).v)).v (dw_cons ((de_op op_addG (de_int).v ((de_call0 F__law_some hr (by rfl) (da_cons (de_var 0) (da_cons ((df_lst (da_cons de_int (da_cons de_int (da_cons (de_op op_mulG (de_int).v ((de_var 1)).v) da_nil))))).d da_nil)) (cntA_cons (cntA_cons cntA_nil)))).v)).v dw_nil))) da_nil)) (cntA_cons (cntA_cons cntA_nil)))).v) da_nil)))))))
theorem sc__law_moved : FnScope ["_law_bag_here", "_law_bar_here", "_law_wide", "_law_born"] ["_law_bag_here", "_law_bar_here", "_law_wide"] (defScope s__law_moved) := ⟨rfl, rfl, rfl, by decide +kernel, rfl, by decide +kernel, by decide +kernel⟩
set_option maxHeartbeats 4000000 in
theorem ok__law_moved (tp : Tp P w K mg base) (dd : DefAt K mg "_law_moved" s__law_moved ["_law_bag_here", "_law_bar_here", "_law_wide"]) (F__law_pick : F0 P w K mg base "_law_pick" 1 2 fm__law_pick) : F0 P w K mg base "_law_moved" 2 3 fm__law_moved := by
  obtain ⟨f, fd, F, hm, hb⟩ := dd
  refine fn_ok0 F sc__law_moved hm hb fun cdv A outer s H E hr => ?_
  have nd := sc__law_moved.nd
  have hu := hu_of65 hr
  have hu64 := hu_of64 hr
  exact (ds_cons (ds_set 3 (de_callB (call_max2G rfl) (by rfl) tp.m_max (by decide +kernel) (dw_cons ((de_un un_negG ((de_var 2)).v)).v (dw_cons ((de_callB (call_min2G rfl) (by rfl) tp.m_min (by decide +kernel) (dw_cons ((de_op op_subG ((de_var 2)).v (de_int).v)).v (dw_cons ((de_op op_subG ((de_op op_addG ((de_ix ((de_var 1)).v (de_int).v)).v ((de_call0 F__law_pick hr (by rfl) (da_cons (de_var 0) (da_cons de_int da_nil)) (cntA_cons (cntA_cons cntA_nil)))).v)).v (de_int).v)).v dw_nil)))).v dw_nil))) nd) (ds_cons (ds_if (dt_cmp op_isG ((de_ix ((de_var 1)).v (de_int).v)).v (de_non).v) (ds_one (ds_ret (de_tup (da_cons (de_var 3) (da_cons de_non da_nil))))) ds_nil) (ds_one (ds_ret (de_tup (da_cons (de_var 3) (da_cons (de_callB (call_max2G rfl) (by rfl) tp.m_max (by decide +kernel) (dw_cons ((de_op op_addG ((de_var 3)).v (de_int).v)).v (dw_cons ((de_callB (call_min2G rfl) (by rfl) tp.m_min (by decide +kernel) (dw_cons ((de_var 2)).v (dw_cons ((de_op op_subG ((de_op op_addG ((de_ix ((de_var 1)).v (de_int).v)).v ((de_call0 F__law_pick hr (by rfl) (da_cons (de_var 0) (da_cons de_int da_nil)) (cntA_cons (cntA_cons cntA_nil)))).v)).v (de_int).v)).v dw_nil)))).v dw_nil))) da_nil)))))))
theorem sc__law_lists : FnScope ["_law_bag_here", "_law_wide", "_law_most", "_law_one", "_law_other", "_law_bar_here", "_law_turn"] ["_law_bag_here", "_law_wide", "_law_most"] (defScope s__law_lists) := ⟨rfl, rfl, rfl, by decide +kernel, rfl, by decide +kernel, by decide +kernel⟩
set_option maxHeartbeats 4000000 in
theorem ok__law_lists (tp : Tp P w K mg base) (dd : DefAt K mg "_law_lists" s__law_lists ["_law_bag_here", "_law_wide", "_law_most"]) (F__law_bar : F0 P w K mg base "_law_bar" 3 2 fm__law_bar) (F__law_pick : F0 P w K mg base "_law_pick" 1 2 fm__law_pick) (F__law_moved : F0 P w K mg base "_law_moved" 2 3 fm__law_moved) : F0 P w K mg base "_law_lists" 4 3 fm__law_lists := by
  obtain ⟨f, fd, F, hm, hb⟩ := dd
  refine fn_ok0 F sc__law_lists hm hb fun cdv A outer s H E hr => ?_
  have nd := sc__law_lists.nd
  have hu := hu_of65 hr
  have hu64 := hu_of64 hr
  exact (ds_cons (by first | exact (ds_lcM 3 rfl nd (di_rg1 (by rfl) tp.m_range (de_call0 F__law_pick hr (by rfl) (da_cons (de_var 0) (da_cons (de_op op_addG ((de_var 2)).v (de_int).v) da_nil)) (cntA_cons (cntA_cons cntA_nil)))).c (blkOk_by (own := [("_law_turn", 6)]) (by kernel_rfl)) (fun _ _ _ _ _ => (dgc_name 6 (by decide) nd)) (fun _ _ _ _ _ => dts_nil) (fun _ _ _ _ _ => (de_call0 F__law_bar hr (by rfl) (da_cons (de_var 0) (da_cons (de_var 1) da_nil)) (cntA_cons (cntA_cons cntA_nil))))) | exact (ds_set 3 ((df_lc rfl nd (di_rg1 (by rfl) tp.m_range (de_call0 F__law_pick hr (by rfl) (da_cons (de_var 0) (da_cons (de_op op_addG ((de_var 2)).v (de_int).v) da_nil)) (cntA_cons (cntA_cons cntA_nil)))).c (blkOk_by (own := [("_law_turn", 6)]) (by kernel_rfl)) (fun _ _ _ _ _ => (dgc_name 6 (by decide) nd)) (fun _ _ _ _ _ => dts_nil) (fun _ _ _ _ _ => (de_call0 F__law_bar hr (by rfl) (da_cons (de_var 0) (da_cons (de_var 1) da_nil)) (cntA_cons (cntA_cons cntA_nil)))))).d nd)) (ds_cons (ds_own 4 (df_lst da_nil) nd) (ds_cons (ds_for PassesOwn.never rfl (di_seq (de_var 3)) (dg_name 5 nd) (ds_one (ds_if (dt_cmp op_gtG ((de_call0 F__law_pick hr (by rfl) (da_cons (de_var 0) (da_cons de_int da_nil)) (cntA_cons (cntA_cons cntA_nil)))).v (de_int).v) (ds_one (ds_ins 4 (da_cons (de_call0 F__law_pick hr (by rfl) (da_cons (de_var 0) (da_cons (de_op op_addG ((de_callB call_lenG (by rfl) tp.m_len (by decide +kernel) (dw_cons (dv_own 4) dw_nil))).v (de_int).v) da_nil)) (cntA_cons (cntA_cons cntA_nil))) (da_cons (de_call0 F__law_moved hr (by rfl) (da_cons (de_var 0) (da_cons (de_var 5) (da_cons (de_var 1) da_nil))) (cntA_cons (cntA_cons (cntA_cons cntA_nil)))) da_nil)))) ds_nil))) (ds_cons (ds_while 50 PassesOwn.never (dw_t (dw_and (dt_cmp op_ltG ((de_callB call_lenG (by rfl) tp.m_len (by decide +kernel) (dw_cons (dv_own 4) dw_nil))).v ((de_var 2)).v) (dw_and1 (dt_cmp (op_eqG hu64) ((de_call0 F__law_pick hr (by rfl) (da_cons (de_var 0) (da_cons de_int da_nil)) (cntA_cons (cntA_cons cntA_nil)))).v (de_int).v)))) (ds_one (ds_app 4 (da_cons (de_call0 F__law_bar hr (by rfl) (da_cons (de_var 0) (da_cons (de_var 1) da_nil)) (cntA_cons (cntA_cons cntA_nil))) da_nil)))) (ds_one (ds_frz 4 (ds_ret (de_tup (da_cons (de_var 3) (da_cons (de_var 4) da_nil))))))))))
theorem sc__law_steps : FnScope ["_law_one", "_law_other", "_law_found", "_law_bar_here", "_law_few", "_law_number", "_law_there"] ["_law_one", "_law_other"] (defScope s__law_steps) := ⟨rfl, rfl, rfl, by decide +kernel, rfl, by decide +kernel, by decide +kernel⟩
set_option maxHeartbeats 4000000 in
theorem ok__law_steps (tp : Tp P w K mg base) (dd : DefAt K mg "_law_steps" s__law_steps ["_law_one", "_law_other"])  : F0 P w K mg base "_law_steps" 1 2 fm__law_steps := by
  obtain ⟨f, fd, F, hm, hb⟩ := dd
  refine fn_ok0 F sc__law_steps hm hb fun cdv A outer s H E hr => ?_
  have nd := sc__law_steps.nd
  have hu := hu_of65 hr
  have hu64 := hu_of64 hr
  exact (ds_cons (ds_own 2 (df_cat ((df_lst (da_cons de_int da_nil))).v ((df_lc rfl nd (dic_seq ((de_op op_addG ((de_var 0)).v ((de_var 1)).v)).v) (blkOk_by (own := [("_law_bar_here", 3)]) (by kernel_rfl)) (fun _ _ _ _ _ => (dgc_name 3 (by decide) nd)) (fun _ _ _ _ _ => (dts_one (dt_cmp op_isnG ((de_ix ((de_var 3)).v (de_int).v)).v (de_non).v))) (fun _ _ _ _ _ => (de_op op_divG ((de_op op_addG ((de_op op_subG ((de_ix ((de_var 3)).v (de_int).v)).v ((de_ix ((de_var 3)).v (de_int).v)).v)).v (de_int).v)).v (de_int).v)))).v) nd) (ds_cons (ds_for PassesOwn.never rfl (di_seq (de_var 0)) (dg_name 3 nd) (ds_cons (ds_ext 2 (da_cons ((df_lc rfl nd (dic_seq ((de_var 1)).v) (blkOk_by (own := [("_law_there", 6)]) (by kernel_rfl)) (fun _ _ _ _ _ => (dgc_name 6 (by decide) nd)) (fun _ _ _ _ _ => dts_nil) (fun _ _ _ _ _ => (de_callB call_absG (by rfl) tp.m_abs (by decide +kernel) (dw_cons ((de_op op_subG ((de_ix ((de_var 3)).v (de_int).v)).v ((de_ix ((de_var 6)).v (de_int).v)).v)).v dw_nil))))).d da_nil)) (ds_one (ds_if (dt_cmp op_isnG ((de_ix ((de_var 3)).v (de_int).v)).v (de_non).v) (ds_one (ds_ext 2 (da_cons ((df_lc rfl nd (dic_seq ((de_var 1)).v) (blkOk_by (own := [("_law_there", 6)]) (by kernel_rfl)) (fun _ _ _ _ _ => (dgc_name 6 (by decide) nd)) (fun _ _ _ _ _ => (dts_one (dt_cmp op_isnG ((de_ix ((de_var 6)).v (de_int).v)).v (de_non).v))) (fun _ _ _ _ _ => (de_callB call_absG (by rfl) tp.m_abs (by decide +kernel) (dw_cons ((de_op op_subG ((de_ix ((de_var 3)).v (de_int).v)).v ((de_ix ((de_var 6)).v (de_int).v)).v)).v dw_nil))))).d da_nil))) ds_nil)))) (ds_cons (ds_own 4 (df_lst da_nil) nd) (ds_cons (ds_for PassesOwn.never rfl (di_seq ((df_callB call_sortedIG (by rfl) tp.m_sorted (by decide +kernel) (dw_cons (dv_own 2) dw_nil))).d) (dg_name 5 nd) (ds_one (ds_if (dw_t (dw_or (dt_cmp (op_eqG hu64) ((de_callB call_lenG (by rfl) tp.m_len (by decide +kernel) (dw_cons (dv_own 4) dw_nil))).v (de_int).v) (dw_or1 (dt_cmp (op_neG hu64) ((de_ix (dv_own 4) ((de_un un_negG (de_int).v)).v)).v ((de_var 5)).v)))) (ds_one (ds_app 4 (da_cons (de_var 5) da_nil))) ds_nil))) (ds_one (ds_frz 4 (ds_ret (de_var 4))))))))
theorem sc__law_is_long : FnScope ["_law_bar", "_law_e"] ["_law_bar", "_law_e"] (defScope s__law_is_long) := ⟨rfl, rfl, rfl, by decide +kernel, rfl, by decide +kernel, by decide +kernel⟩
set_option maxHeartbeats 4000000 in
theorem ok__law_is_long (tp : Tp P w K mg base) (dd : DefAt K mg "_law_is_long" s__law_is_long ["_law_bar", "_law_e"]) (F__law_bar : F0 P w K mg base "_law_bar" 3 2 fm__law_bar) : F0 P w K mg base "_law_is_long" 4 2 fm__law_is_long := by
  obtain ⟨f, fd, F, hm, hb⟩ := dd
  refine fn_ok0 F sc__law_is_long hm hb fun cdv A outer s H E hr => ?_
  have nd := sc__law_is_long.nd
  have hu := hu_of65 hr
  have hu64 := hu_of64 hr
  exact (ds_one (ds_ret (de_or (de_cmp op_isG ((de_ix ((de_var 0)).v (de_int).v)).v (de_non).v) (de_one (de_cmp op_gtG ((de_op op_subG ((de_ix ((de_var 0)).v (de_int).v)).v ((de_ix ((de_var 0)).v (de_int).v)).v)).v ((de_op op_mulG (de_int).v ((de_var 1)).v)).v)))))
theorem sc__law_fits : FnScope ["_law_bar", "_law_other", "_law_e"] ["_law_bar", "_law_other", "_law_e"] (defScope s__law_fits) := ⟨rfl, rfl, rfl, by decide +kernel, rfl, by decide +kernel, by decide +kernel⟩
set_option maxHeartbeats 4000000 in
theorem ok__law_fits (tp : Tp P w K mg base) (dd : DefAt K mg "_law_fits" s__law_fits ["_law_bar", "_law_other", "_law_e"]) (F__law_bar : F0 P w K mg base "_law_bar" 3 2 fm__law_bar) : F0 P w K mg base "_law_fits" 4 3 fm__law_fits := by
  obtain ⟨f, fd, F, hm, hb⟩ := dd
  refine fn_ok0 F sc__law_fits hm hb fun cdv A outer s H E hr => ?_
  have nd := sc__law_fits.nd
  have hu := hu_of65 hr
  have hu64 := hu_of64 hr
  exact (ds_cons (ds_if (dt_cmp op_gtG ((de_callB call_absG (by rfl) tp.m_abs (by decide +kernel) (dw_cons ((de_op op_subG ((de_ix ((de_var 0)).v (de_int).v)).v ((de_ix ((de_var 1)).v (de_int).v)).v)).v dw_nil))).v ((de_var 2)).v) (ds_one (ds_ret de_bl)) ds_nil) (ds_cons (ds_if (dw_t (dw_or (dt_cmp op_isG ((de_ix ((de_var 0)).v (de_int).v)).v (de_non).v) (dw_or1 (dt_cmp op_isG ((de_ix ((de_var 1)).v (de_int).v)).v (de_non).v)))) (ds_one (ds_ret (de_and (de_cmp op_isG ((de_ix ((de_var 0)).v (de_int).v)).v (de_non).v) (de_one (de_cmp op_isG ((de_ix ((de_var 1)).v (de_int).v)).v (de_non).v))))) ds_nil) (ds_one (ds_ret (de_cmp op_leG ((de_callB call_absG (by rfl) tp.m_abs (by decide +kernel) (dw_cons ((de_op op_subG ((de_ix ((de_var 0)).v (de_int).v)).v ((de_ix ((de_var 1)).v (de_int).v)).v)).v dw_nil))).v ((de_var 2)).v)))))
theorem sc__law_paired : FnScope ["_law_one", "_law_other", "_law_e", "_law_used", "_law_at", "_law_to", "_law_bar"] ["_law_one", "_law_other", "_law_e", "_law_used", "_law_at"] (defScope s__law_paired) := ⟨rfl, rfl, rfl, by decide +kernel, rfl, by decide +kernel, by decide +kernel⟩
set_option maxHeartbeats 4000000 in
theorem okN__law_paired (tp : Tp P w K mg base) (dd : DefAt K mg "_law_paired" s__law_paired ["_law_one", "_law_other", "_law_e", "_law_used", "_law_at"]) (F__law_bar : F0 P w K mg base "_law_bar" 3 2 fm__law_bar) (F__law_is_long : F0 P w K mg base "_law_is_long" 4 2 fm__law_is_long) (F__law_fits : F0 P w K mg base "_law_fits" 4 3 fm__law_fits) : ∀ n : Nat, F0 P w K mg base "_law_paired" (5 + n) 5 (fmN__law_paired n)
  | 0 => fn_stuck0 dd sc__law_paired
  | n + 1 => by
    have F_self := okN__law_paired tp dd F__law_bar F__law_is_long F__law_fits n
    obtain ⟨f, fd, F, hm, hb⟩ := dd
    refine fn_ok0 F sc__law_paired hm hb fun cdv A outer s H E hr => ?_
    have nd := sc__law_paired.nd
    have hu := hu_of65 hr
    have hu64 := hu_of64 hr
    exact (ds_cons (ds_if (dt_cmp (op_eqG hu64) ((de_var 4)).v ((de_callB call_lenG (by rfl) tp.m_len (by decide +kernel) (dw_cons ((de_var 0)).v dw_nil))).v) (ds_one (ds_ret (de_callB (call_allG rfl) (by rfl) tp.m_all (by decide +kernel) (dw_cons ((df_lc rfl nd (dic_enumL (by rfl) tp.m_enumerate ((de_var 1)).v) (blkOk_by (own := [("_law_to", 5), ("_law_bar", 6)]) (by kernel_rfl)) (fun _ _ _ _ _ => (dgc_tup rfl (dgc_cons (dgc_name 5 (by decide) nd) (dgc_cons (dgc_name 6 (by decide) nd) dgc_nil)) (cnt_cons (cnt_cons cnt_nil)))) (fun _ _ _ _ _ => dts_nil) (fun _ _ _ _ _ => (de_or (de_cmp (op_inG hu) ((de_var 5)).v ((de_var 3)).v) (de_one (de_not (de_call0 F__law_is_long hr (by rfl) (da_cons (de_var 6) (da_cons (de_var 2) da_nil)) (cntA_cons (cntA_cons cntA_nil)) (hj := Nat.le_trans (by decide : 4 ≤ 5) (Nat.le_add_right _ _))))))))).v dw_nil)))) ds_nil) (ds_cons (ds_if (dw_t (dw_and (dt_not (dt_val (de_call0 F__law_is_long hr (by rfl) (da_cons (de_ix ((de_var 0)).v ((de_var 4)).v) (da_cons (de_var 2) da_nil)) (cntA_cons (cntA_cons cntA_nil)) (hj := Nat.le_trans (by decide : 4 ≤ 5) (Nat.le_add_right _ _))))) (dw_and1 (dt_val (de_call0 F_self hr (by rfl) (da_cons (de_var 0) (da_cons (de_var 1) (da_cons (de_var 2) (da_cons (de_var 3) (da_cons (de_op op_addG ((de_var 4)).v (de_int).v) da_nil))))) (cntA_cons (cntA_cons (cntA_cons (cntA_cons (cntA_cons cntA_nil))))) (hj := Nat.le_refl _)))))) (ds_one (ds_ret de_bl)) ds_nil) (ds_cons (ds_for PassesOwn.never rfl (di_enumL (by rfl) tp.m_enumerate (de_var 1)) (dg_tup rfl (dg_cons (dg_name 5 nd) (dg_cons (dg_name 6 nd) dg_nil)) (cnt_cons (cnt_cons cnt_nil))) (ds_one (ds_if (dw_t (dw_and (dt_cmp (op_ninG hu) ((de_var 5)).v ((de_var 3)).v) (dw_and1 (dt_val (de_call0 F__law_fits hr (by rfl) (da_cons (de_ix ((de_var 0)).v ((de_var 4)).v) (da_cons (de_var 6) (da_cons (de_var 2) da_nil))) (cntA_cons (cntA_cons (cntA_cons cntA_nil))) (hj := Nat.le_trans (by decide : 4 ≤ 5) (Nat.le_add_right _ _))))))) (ds_one (ds_if (dt_val (de_call0 F_self hr (by rfl) (da_cons (de_var 0) (da_cons (de_var 1) (da_cons (de_var 2) (da_cons (de_op op_addG ((de_var 3)).v ((df_lst (da_cons (de_var 5) da_nil))).v) (da_cons (de_op op_addG ((de_var 4)).v (de_int).v) da_nil))))) (cntA_cons (cntA_cons (cntA_cons (cntA_cons (cntA_cons cntA_nil))))) (hj := Nat.le_refl _))) (ds_one (ds_ret de_bl)) ds_nil)) ds_nil))) (ds_one (ds_ret de_bl)))))
theorem ok__law_paired (tp : Tp P w K mg base) (dd : DefAt K mg "_law_paired" s__law_paired ["_law_one", "_law_other", "_law_e", "_law_used", "_law_at"]) (F__law_bar : F0 P w K mg base "_law_bar" 3 2 fm__law_bar) (F__law_is_long : F0 P w K mg base "_law_is_long" 4 2 fm__law_is_long) (F__law_fits : F0 P w K mg base "_law_fits" 4 3 fm__law_fits) : F0 P w K mg base "_law_paired" 11 5 fm__law_paired := okN__law_paired tp dd F__law_bar F__law_is_long F__law_fits 6
theorem sc__law_found_for : FnScope ["_law_at", "_law_edges", "_law_taken", "_law_seen", "_law_to"] ["_law_at", "_law_edges", "_law_taken", "_law_seen"] (defScope s__law_found_for) := ⟨rfl, rfl, rfl, by decide +kernel, rfl, by decide +kernel, by decide +kernel⟩
set_option maxHeartbeats 4000000 in
theorem okN__law_found_for (tp : Tp P w K mg base) (dd : DefAt K mg "_law_found_for" s__law_found_for ["_law_at", "_law_edges", "_law_taken", "_law_seen"]) : ∀ n : Nat, Fk P w K mg base CX0 "_law_found_for" (1 + n) 4 (spFF K n)
  | 0 => by
    obtain ⟨f, fd, F, hm, hb⟩ := dd
    have no : ∀ {vs H Q E}, spFF K 0 vs H Q E → False := fun {vs H Q E} h => by
      obtain ⟨a, e, t, s, rows, tk, sn, r, _, _, _, _, _, _, _, _, z, _⟩ := h
      cases z
    exact ⟨f, fd, _, hm, F.kp, hb, F.ok sc__law_found_for (fun vs H Q E h => (no h).elim) fun cdv A outer s H vs Q E hr h => (no h).elim⟩
  | n + 1 => by
    have F_self := okN__law_found_for tp dd n
    obtain ⟨f, fd, F, hm, hb⟩ := dd
    obtain ⟨f2, fd2, ps2, hm2, kp2, hb2, G2⟩ := F_self.ex
    have nd := sc__law_found_for.nd
    refine ⟨f, fd, _, hm, F.kp, hb, F.ok sc__law_found_for (fun vs H Q E h => ?_) fun cdv A outer sh H vs Q E hr h => ?_⟩
    · obtain ⟨a, e, t, s, rows, tk, sn, r, rfl, _⟩ := h
      rfl
    obtain ⟨at_, e, t, s, rows, tk, sn, r, rfl, hE, hR, et, es, ts, hT, hS, hff, q⟩ := h
    have hu := hu_of65 hr
    refine ⟨_, pss_cons (ps_for PassesOwn.never rfl (pi_list (pe_ix ix_list (pv 1) (pv 0) (fun _ _ => rfl))) (pg_name (i := 4) nd rfl (.inl rfl))
        (pss_one (ps_if (pt_cmpR op_notIn_seq (pv 4) (pv 3) rfl)
          (pss_cons (ps_expr (pe_bm PySem.F.plainAttrs_list PySem.F.slot_list_append PySem.F.type_list_append mt_append (pv 3) (pa_cons (pv 4) pa_nil)))
          (pss_one (ps_if (pw_or (pt_cmpR (op_dNotIn (hu_of hr)) (pv 4) (pv 2) rfl) (pw_or1 (pt_val (pe_call G2 hr (by rfl) hm2 kp2 hb2 .nil pass0 (pa_cons (pe_dget (hu_of hr) (pv 2) (pv 4) (fun _ _ => rfl)) (pa_cons (pv 1) (pa_cons (pv 2) (pa_cons (pv 3) pa_nil)))))))).pt
            (pss_cons (ps_asg (pv 0) (pg_sub (pv 2) (pv 4) (set_dict (hu_of hr)))) (pss_one (ps_ret pe_bl)))
            pss_nil))) pss_nil)))
      (pss_one (ps_ret pe_bl)), ?_⟩
    obtain ⟨row, hrow⟩ : ∃ row, atI (rows.map (·.2)) at_ = some row := by
      cases hz : atI (rows.map (·.2)) at_ with
      | none => rw [ff, hz] at hff; cases hff
      | some row => exact ⟨row, rfl⟩
    rw [ff, hrow] at hff
    have hff : ffl (ff (rows.map (·.2)) n) at_ row tk sn = some r := hff
    obtain ⟨ra, hra, hmem⟩ : ∃ ra, atI (rows.map fun r => V.ref r.1) at_ = some (.ref ra) ∧ (ra, row) ∈ rows := by
      unfold atI at hrow ⊢
      rw [List.length_map] at hrow ⊢
      cases hi : ixN rows.length at_ with
      | none => rw [hi] at hrow; cases hrow
      | some j =>
        rw [hi] at hrow
        have hrow : (rows.map (·.2))[j]? = some row := hrow
        rw [List.getElem?_map] at hrow
        cases hj : rows[j]? with
        | none => rw [hj] at hrow; cases hrow
        | some p =>
          rw [hj] at hrow
          have hrow : p.2 = row := Option.some.inj hrow
          refine ⟨p.1, ?_, ?_⟩
          · show (rows.map fun r => V.ref r.1)[j]? = _
            rw [List.getElem?_map, hj]
            rfl
          · rw [← hrow]
            exact List.mem_of_getElem? hj
    obtain ⟨hRow, rt, rs⟩ := hR _ hmem
    have rt : ra ≠ t := rt
    have rs : ra ≠ s := rs
    have hRow : SqL K H ra (row.map V.int) := hRow
    refine ⟨.ref e, rfl, .int at_, rfl, e, _, at_, .ref ra, rfl, rfl, hE, hra, ra, rfl, ⟨_, hRow⟩, ?_⟩
    refine ⟨fun i m σ H' => ∃ tk' sn' y4, σ = [some (.int at_), some (.ref e), some (.ref t), some (.ref s), y4] ∧ H' = hp2 H t s tk' sn' ∧ i + m = row.length ∧ ffl (ff (rows.map (·.2)) n) at_ (row.drop i) tk' sn' = some r,
      ⟨row.length, tk, sn, none, rfl, (hp2_id hT hS).symm, by omega, hff⟩, fun i m σ H' hW => ?_⟩
    obtain ⟨tk', sn', y4, rfl, rfl, em, hrem⟩ := hW
    have hRow' : SqL K (hp2 H t s tk' sn') ra (row.map V.int) := sql_hp2 hRow rt rs
    by_cases hi : i < row.length
    · have g1 : (row.map V.int)[i]? = some (.int row[i]) := by
        rw [List.getElem?_map, List.getElem?_eq_getElem hi]
        rfl
      rw [List.drop_eq_getElem_cons hi, ffl] at hrem
      refine .inr ⟨⟨_, _, hRow', g1⟩, fun σ' H'' => ∃ tk' sn' y4, σ' = [some (.int at_), some (.ref e), some (.ref t), some (.ref s), y4] ∧ H'' = hp2 H t s tk' sn' ∧ ffl (ff (rows.map (·.2)) n) at_ (row.drop (i + 1)) tk' sn' = some r, fun σ' H'' ⟨tk2, sn2, y, e1, e2, e3⟩ => ⟨m - 1, by omega, tk2, sn2, y, e1, e2, by omega, e3⟩, fun x H'' hy => ?_⟩
      obtain ⟨rfl, fx⟩ := hy
      cases (fx _ hRow').symm.trans g1
      have hs1 : SqL K (hp2 H t s tk' sn') s (sn'.map V.int) := .inl (.inl hp2_s)
      refine ⟨.int row[i], rfl, .ref s, rfl, s, _, rfl, .inl hs1, rfl, flatV_ints sn', _, rfl, ?_⟩
      rw [if_pos rfl, inV_ints]
      by_cases hin : row[i] ∈ sn'
      · rw [if_pos hin] at hrem
        rw [decide_eq_true hin]
        exact ⟨tk', sn', _, rfl, rfl, hrem⟩
      · rw [if_neg hin] at hrem
        rw [decide_eq_false hin]
        by_cases hz : 1000 ≤ sn'.length ∨ 1000 ≤ tk'.length
        · rw [if_pos hz] at hrem; cases hrem
        rw [if_neg hz] at hrem
        have hz1 : sn'.length < 1000 := by omega
        have hz2 : tk'.length < 1000 := by omega
        have big : (1000 : Nat) ≤ sizeLine := by rw [sizeLine_eq]; decide
        -- seen.append(to)
        refine ⟨.ref s, rfl, .inl ⟨rfl, _, hs1⟩, .int row[i], rfl, s, _, _, rfl, rfl, hp2_s, by rw [List.length_map]; omega, ?_⟩
        rw [show (sn'.map V.int ++ [V.int row[i]]) = (sn' ++ [row[i]]).map V.int by simp, hp2_ps]
        have hTt : hp2 H t s tk' (sn' ++ [row[i]]) t = some (.dK (eT tk')) := hp2_t ts
        -- to not in taken
        refine ⟨.int row[i], rfl, .ref t, rfl, t, _, rfl, DGet.k (k := .inl row[i]) hTt, _, rfl, ?_⟩
        rw [valV_eT]
        cases hl : lookT tk' row[i] with
        | none =>
          rw [hl] at hrem
          cases (Option.some.inj hrem)
          refine ⟨.int at_, rfl, .ref t, rfl, .int row[i], rfl, t, _, rfl, DPut.k (k := .inl row[i]) hTt (by unfold eT; rw [List.length_map]; omega), ?_⟩
          rw [putK_eT, hp2_pt ts]
          exact q
        | some h =>
          rw [hl] at hrem
          have hrem : (match ff (rows.map (·.2)) n tk' (sn' ++ [row[i]]) h with
            | none => none
            | some (true, tk2, sn2) => if 1000 ≤ tk2.length then none else some (true, putT tk2 row[i] at_, sn2)
            | some (false, tk2, sn2) => ffl (ff (rows.map (·.2)) n) at_ (row.drop (i + 1)) tk2 sn2) = some r := hrem
          refine ⟨.ref t, rfl, .int row[i], rfl, t, .int h, rfl, by have := DGet.k (k := .inl row[i]) hTt; rw [valV_eT, hl] at this; exact this, .ref e, rfl, .ref t, rfl, .ref s, rfl, ?_⟩
          cases hr2 : ff (rows.map (·.2)) n tk' (sn' ++ [row[i]]) h with
          | none => rw [hr2] at hrem; cases hrem
          | some r2 =>
            obtain ⟨k2, tk2, sn2⟩ := r2
            rw [hr2] at hrem
            refine ⟨h, e, t, s, rows, tk', sn' ++ [row[i]], (k2, tk2, sn2), rfl, sql_hp2 hE et es, fun p hp => ⟨sql_hp2 (hR p hp).1 (hR p hp).2.1 (hR p hp).2.2, (hR p hp).2⟩, et, es, ts, hTt, hp2_s, hr2, ?_⟩
            rw [hp2_hp2]
            have hT2 : hp2 H t s tk2 sn2 t = some (.dK (eT tk2)) := hp2_t ts
            cases k2 with
            | true =>
              have hrem : (if 1000 ≤ tk2.length then none else some (true, putT tk2 row[i] at_, sn2)) = some r := hrem
              by_cases hz3 : 1000 ≤ tk2.length
              · rw [if_pos hz3] at hrem; cases hrem
              rw [if_neg hz3] at hrem
              cases (Option.some.inj hrem)
              refine ⟨_, rfl, .int at_, rfl, .ref t, rfl, .int row[i], rfl, t, _, rfl, DPut.k (k := .inl row[i]) hT2 (by unfold eT; rw [List.length_map]; omega), ?_⟩
              rw [putK_eT, hp2_pt ts]
              exact q
            | false =>
              have hrem : ffl (ff (rows.map (·.2)) n) at_ (row.drop (i + 1)) tk2 sn2 = some r := hrem
              exact ⟨_, rfl, tk2, sn2, _, rfl, rfl, hrem⟩
    · have hlen : row.drop i = [] := List.drop_eq_nil_of_le (by omega)
      rw [hlen, ffl] at hrem
      cases (Option.some.inj hrem)
      refine .inl ⟨⟨_, hRow', by rw [List.length_map]; omega⟩, q⟩
theorem sc__law_all_found : FnScope ["_law_one", "_law_other", "_law_e", "_law_edges", "_law_taken", "_law_at", "_law_bar", "_law_here", "_law_to"] ["_law_one", "_law_other", "_law_e"] (defScope s__law_all_found) := ⟨rfl, rfl, rfl, by decide +kernel, rfl, by decide +kernel, by decide +kernel⟩
set_option maxHeartbeats 4000000 in
theorem ok__law_all_found (tp : Tp P w K mg base) (dd : DefAt K mg "_law_all_found" s__law_all_found ["_law_one", "_law_other", "_law_e"]) (F__law_bar : F0 P w K mg base "_law_bar" 3 2 fm__law_bar) (F__law_is_long : F0 P w K mg base "_law_is_long" 4 2 fm__law_is_long) (F__law_fits : F0 P w K mg base "_law_fits" 4 3 fm__law_fits) (F__law_found_for : Fk P w K mg base CX0 "_law_found_for" 31 4 (spFF K 30)) : F0 P w K mg base "_law_all_found" 32 3 fm__law_all_found := by
  obtain ⟨f, fd, F, hm, hb⟩ := dd
  refine fn_ok0 F sc__law_all_found hm hb fun cdv A outer s H E hr => ?_
  have nd := sc__law_all_found.nd
  have hu := hu_of65 hr
  have hu64 := hu_of64 hr
  exact (ds_cons (by first | exact (ds_lcM 3 rfl nd (dic_seq ((de_var 0)).v) (blkOk_by (own := [("_law_here", 7)]) (by kernel_rfl)) (fun _ _ _ _ _ => (dgc_name 7 (by decide) nd)) (fun _ _ _ _ _ => dts_nil) (fun _ _ _ _ _ => ((df_lc rfl nd (dic_enumL (by rfl) tp.m_enumerate ((de_var 1)).v) (blkOk_by (own := [("_law_to", 8), ("_law_bar", 6)]) (by kernel_rfl)) (fun _ _ _ _ _ => (dgc_tup rfl (dgc_cons (dgc_name 8 (by decide) nd) (dgc_cons (dgc_name 6 (by decide) nd) dgc_nil)) (cnt_cons (cnt_cons cnt_nil)))) (fun _ _ _ _ _ => (dts_one (dt_val (de_call0 F__law_fits hr (by rfl) (da_cons (de_var 7) (da_cons (de_var 6) (da_cons (de_var 2) da_nil))) (cntA_cons (cntA_cons (cntA_cons cntA_nil))))))) (fun _ _ _ _ _ => (de_var 8)))).d)) | exact (ds_set 3 ((df_lc rfl nd (dic_seq ((de_var 0)).v) (blkOk_by (own := [("_law_here", 7)]) (by kernel_rfl)) (fun _ _ _ _ _ => (dgc_name 7 (by decide) nd)) (fun _ _ _ _ _ => dts_nil) (fun _ _ _ _ _ => ((df_lc rfl nd (dic_enumL (by rfl) tp.m_enumerate ((de_var 1)).v) (blkOk_by (own := [("_law_to", 8), ("_law_bar", 6)]) (by kernel_rfl)) (fun _ _ _ _ _ => (dgc_tup rfl (dgc_cons (dgc_name 8 (by decide) nd) (dgc_cons (dgc_name 6 (by decide) nd) dgc_nil)) (cnt_cons (cnt_cons cnt_nil)))) (fun _ _ _ _ _ => (dts_one (dt_val (de_call0 F__law_fits hr (by rfl) (da_cons (de_var 7) (da_cons (de_var 6) (da_cons (de_var 2) da_nil))) (cntA_cons (cntA_cons (cntA_cons cntA_nil))))))) (fun _ _ _ _ _ => (de_var 8)))).d))).d nd)) (ds_cons (ds_own 4 df_dK nd) (ds_cons (ds_for PassesOwn.never rfl (di_enumL (by rfl) tp.m_enumerate (de_var 0)) (dg_tup rfl (dg_cons (dg_name 5 nd) (dg_cons (dg_name 6 nd) dg_nil)) (cnt_cons (cnt_cons cnt_nil))) (ds_one (ds_ifFF F__law_found_for 5 3 4 hr (by rfl) (dt_val (de_call0 F__law_is_long hr (by rfl) (da_cons (de_var 6) (da_cons (de_var 2) da_nil)) (cntA_cons (cntA_cons cntA_nil))))))) (ds_one (ds_ret de_bl)))))
theorem sc__law_is_there : FnScope ["_law_one", "_law_other", "_law_e"] ["_law_one", "_law_other", "_law_e"] (defScope s__law_is_there) := ⟨rfl, rfl, rfl, by decide +kernel, rfl, by decide +kernel, by decide +kernel⟩
set_option maxHeartbeats 4000000 in
theorem ok__law_is_there (tp : Tp P w K mg base) (dd : DefAt K mg "_law_is_there" s__law_is_there ["_law_one", "_law_other", "_law_e"]) (F__law_paired : F0 P w K mg base "_law_paired" 11 5 fm__law_paired) (F__law_all_found : F0 P w K mg base "_law_all_found" 32 3 fm__law_all_found) : F0 P w K mg base "_law_is_there" 33 3 fm__law_is_there := by
  obtain ⟨f, fd, F, hm, hb⟩ := dd
  refine fn_ok0 F sc__law_is_there hm hb fun cdv A outer s H E hr => ?_
  have nd := sc__law_is_there.nd
  have hu := hu_of65 hr
  have hu64 := hu_of64 hr
  exact (ds_cons (ds_if (dw_t (dw_and (dt_cmp op_ltG ((de_callB call_lenG (by rfl) tp.m_len (by decide +kernel) (dw_cons ((de_var 0)).v dw_nil))).v (de_int).v) (dw_and1 (dt_cmp op_ltG ((de_callB call_lenG (by rfl) tp.m_len (by decide +kernel) (dw_cons ((de_var 1)).v dw_nil))).v (de_int).v)))) (ds_one (ds_ret (de_call0 F__law_paired hr (by rfl) (da_cons (de_var 0) (da_cons (de_var 1) (da_cons (de_var 2) (da_cons ((df_lst da_nil)).d (da_cons de_int da_nil))))) (cntA_cons (cntA_cons (cntA_cons (cntA_cons (cntA_cons cntA_nil)))))))) ds_nil) (ds_one (ds_ret (de_and (de_call0 F__law_all_found hr (by rfl) (da_cons (de_var 0) (da_cons (de_var 1) (da_cons (de_var 2) da_nil))) (cntA_cons (cntA_cons (cntA_cons cntA_nil)))) (de_one (de_call0 F__law_all_found hr (by rfl) (da_cons (de_var 1) (da_cons (de_var 0) (da_cons (de_var 2) da_nil))) (cntA_cons (cntA_cons (cntA_cons cntA_nil)))))))))
theorem sc__law_due : FnScope ["_law_one", "_law_other", "_law_numbers", "_law_low", "_law_high", "_law_middle"] ["_law_one", "_law_other"] (defScope s__law_due) := ⟨rfl, rfl, rfl, by decide +kernel, rfl, by decide +kernel, by decide +kernel⟩
set_option maxHeartbeats 4000000 in
theorem ok__law_due (tp : Tp P w K mg base) (dd : DefAt K mg "_law_due" s__law_due ["_law_one", "_law_other"]) (F__law_steps : F0 P w K mg base "_law_steps" 1 2 fm__law_steps) (F__law_is_there : F0 P w K mg base "_law_is_there" 33 3 fm__law_is_there) : F0 P w K mg base "_law_due" 34 2 fm__law_due := by
  obtain ⟨f, fd, F, hm, hb⟩ := dd
  refine fn_ok0 F sc__law_due hm hb fun cdv A outer s H E hr => ?_
  have nd := sc__law_due.nd
  have hu := hu_of65 hr
  have hu64 := hu_of64 hr
  exact (ds_cons (ds_set 2 (de_call0 F__law_steps hr (by rfl) (da_cons (de_var 0) (da_cons (de_var 1) da_nil)) (cntA_cons (cntA_cons cntA_nil))) nd) (ds_cons (ds_if (dt_not (dt_val (de_call0 F__law_is_there hr (by rfl) (da_cons (de_var 0) (da_cons (de_var 1) (da_cons (de_ix ((de_var 2)).v ((de_un un_negG (de_int).v)).v) da_nil))) (cntA_cons (cntA_cons (cntA_cons cntA_nil)))))) (ds_one (ds_ret de_non)) ds_nil) (ds_cons (by first | exact (ds_par2 rfl nd (dsl_m de_int (dsl_m (de_op op_subG ((de_callB call_lenG (by rfl) tp.m_len (by decide +kernel) (dw_cons ((de_var 2)).v dw_nil))).v (de_int).v) dsl_nil))) | exact (ds_parT [3, 4] (dsl_m de_int (dsl_m (de_op op_subG ((de_callB call_lenG (by rfl) tp.m_len (by decide +kernel) (dw_cons ((de_var 2)).v dw_nil))).v (de_int).v) dsl_nil)) rfl (pgs_cons (pg_name (i := 3) nd rfl (by first | exact .inl rfl | exact .inr rfl)) (pgs_cons (pg_name (i := 4) nd rfl (by first | exact .inl rfl | exact .inr rfl)) pgs_nil)))) (ds_cons (ds_while 30 PassesOwn.never (dt_cmp op_ltG ((de_var 3)).v ((de_var 4)).v) (ds_cons (ds_set 5 (de_op op_divG ((de_op op_addG ((de_var 3)).v ((de_var 4)).v)).v (de_int).v) nd) (ds_one (ds_if (dt_val (de_call0 F__law_is_there hr (by rfl) (da_cons (de_var 0) (da_cons (de_var 1) (da_cons (de_ix ((de_var 2)).v ((de_var 5)).v) da_nil))) (cntA_cons (cntA_cons (cntA_cons cntA_nil))))) (ds_one (ds_set 4 (de_var 5) nd)) (ds_one (ds_set 3 (de_op op_addG ((de_var 5)).v (de_int).v) nd)))))) (ds_one (ds_ret (de_ix ((de_var 2)).v ((de_var 3)).v)))))))
theorem sc_is_integer : FnScope ["thing"] ["thing"] (defScope s_is_integer) := ⟨rfl, rfl, rfl, by decide +kernel, rfl, by decide +kernel, by decide +kernel⟩
set_option maxHeartbeats 4000000 in
theorem ok_is_integer (tp : Tp P w K mg base) (dd : DefAt K mg "is_integer" s_is_integer ["thing"])  : F0 P w K mg base "is_integer" 1 1 fm_is_integer := by
  obtain ⟨f, fd, F, hm, hb⟩ := dd
  refine fn_ok0 F sc_is_integer hm hb fun cdv A outer s H E hr => ?_
  have nd := sc_is_integer.nd
  have hu := hu_of65 hr
  have hu64 := hu_of64 hr
  exact (ds_one (ds_ret (de_and (de_isi (by rfl) tp.m_isinstance (by rfl) tp.m_int (by decide +kernel) ((de_var 0)).v) (de_one (de_not (de_isi (by rfl) tp.m_isinstance (by rfl) tp.m_bool (by decide +kernel) ((de_var 0)).v))))))
theorem sc_is_within : FnScope ["thing", "least", "most"] ["thing", "least", "most"] (defScope s_is_within) := ⟨rfl, rfl, rfl, by decide +kernel, rfl, by decide +kernel, by decide +kernel⟩
set_option maxHeartbeats 4000000 in
theorem ok_is_within (tp : Tp P w K mg base) (dd : DefAt K mg "is_within" s_is_within ["thing", "least", "most"]) (F_is_integer : F0 P w K mg base "is_integer" 1 1 fm_is_integer) : F0 P w K mg base "is_within" 2 3 fm_is_within := by
  obtain ⟨f, fd, F, hm, hb⟩ := dd
  refine fn_ok0 F sc_is_within hm hb fun cdv A outer s H E hr => ?_
  have nd := sc_is_within.nd
  have hu := hu_of65 hr
  have hu64 := hu_of64 hr
  exact (ds_one (ds_ret (de_and (de_call0 F_is_integer hr (by rfl) (da_cons (de_var 0) da_nil) (cntA_cons cntA_nil)) (de_one (de_chain op_leG op_leG ((de_var 1)).v ((de_var 0)).v ((de_var 2)).v)))))
theorem sc_is_bar : FnScope ["thing"] ["thing"] (defScope s_is_bar) := ⟨rfl, rfl, rfl, by decide +kernel, rfl, by decide +kernel, by decide +kernel⟩
set_option maxHeartbeats 4000000 in
theorem ok_is_bar (tp : Tp P w K mg base) (dd : DefAt K mg "is_bar" s_is_bar ["thing"]) (F_is_within : F0 P w K mg base "is_within" 2 3 fm_is_within) : F0 P w K mg base "is_bar" 3 1 fm_is_bar := by
  obtain ⟨f, fd, F, hm, hb⟩ := dd
  refine fn_ok0 F sc_is_bar hm hb fun cdv A outer s H E hr => ?_
  have nd := sc_is_bar.nd
  have hu := hu_of65 hr
  have hu64 := hu_of64 hr
  exact (ds_cons (ds_if (dw_t (dw_or (dt_not (dt_val (de_isi (by rfl) tp.m_isinstance (by rfl) tp.m_tuple (by decide +kernel) ((de_var 0)).v))) (dw_or (dt_cmp (op_neG hu64) ((de_callB call_lenG (by rfl) tp.m_len (by decide +kernel) (dw_cons ((de_var 0)).v dw_nil))).v (de_int).v) (dw_or1 (dt_not (dt_val (de_call0 F_is_within hr (by rfl) (da_cons (de_ix ((de_var 0)).v (de_int).v) (da_cons (de_un un_negG ((de_gintE (by rfl) tp.c_FARTHEST)).v) (da_cons (de_gintE (by rfl) tp.c_FARTHEST) da_nil))) (cntA_cons (cntA_cons (cntA_cons cntA_nil)))))))))) (ds_one (ds_ret de_bl)) ds_nil) (ds_one (ds_ret (de_or (de_cmp op_isG ((de_ix ((de_var 0)).v (de_int).v)).v (de_non).v) (de_one (de_call0 F_is_within hr (by rfl) (da_cons (de_ix ((de_var 0)).v (de_int).v) (da_cons (de_op op_addG ((de_ix ((de_var 0)).v (de_int).v)).v (de_int).v) (da_cons (de_gintE (by rfl) tp.c_FARTHEST) da_nil))) (cntA_cons (cntA_cons (cntA_cons cntA_nil)))))))))
theorem sc_check_bars : FnScope ["thing", "bar"] ["thing"] (defScope s_check_bars) := ⟨rfl, rfl, rfl, by decide +kernel, rfl, by decide +kernel, by decide +kernel⟩
set_option maxHeartbeats 4000000 in
theorem ok_check_bars (tp : Tp P w K mg base) (dd : DefAt K mg "check_bars" s_check_bars ["thing"]) (F_is_bar : F0 P w K mg base "is_bar" 3 1 fm_is_bar) : F0 P w K mg base "check_bars" 4 1 fm_check_bars := by
  obtain ⟨f, fd, F, hm, hb⟩ := dd
  refine fn_ok0 F sc_check_bars hm hb fun cdv A outer s H E hr => ?_
  have nd := sc_check_bars.nd
  have hu := hu_of65 hr
  have hu64 := hu_of64 hr
  exact (ds_one (ds_if (dw_t (dw_or (dt_not (dt_val (de_isi2 (by rfl) tp.m_isinstance (by rfl) tp.m_list (by decide +kernel) (by rfl) tp.m_tuple (by decide +kernel) ((de_var 0)).v))) (dw_or (dt_cmp op_gtG ((de_callB call_lenG (by rfl) tp.m_len (by decide +kernel) (dw_cons ((de_var 0)).v dw_nil))).v ((de_gintE (by rfl) tp.c_MOST_BARS)).v) (dw_or1 (dt_not (dt_val (de_callB (call_allG rfl) (by rfl) tp.m_all (by decide +kernel) (dw_cons ((df_lc rfl nd (dic_seq ((de_var 0)).v) (blkOk_by (own := [("bar", 1)]) (by kernel_rfl)) (fun _ _ _ _ _ => (dgc_name 1 (by decide) nd)) (fun _ _ _ _ _ => dts_nil) (fun _ _ _ _ _ => (de_call0 F_is_bar hr (by rfl) (da_cons (de_var 1) da_nil) (cntA_cons cntA_nil))))).v dw_nil)))))))) (ds_one ds_never) ds_nil))
theorem sc_is_long : FnScope ["bar", "e"] ["bar", "e"] (defScope s_is_long) := ⟨rfl, rfl, rfl, by decide +kernel, rfl, by decide +kernel, by decide +kernel⟩
set_option maxHeartbeats 4000000 in
theorem ok_is_long (tp : Tp P w K mg base) (dd : DefAt K mg "is_long" s_is_long ["bar", "e"])  : F0 P w K mg base "is_long" 1 2 fm_is_long := by
  obtain ⟨f, fd, F, hm, hb⟩ := dd
  refine fn_ok0 F sc_is_long hm hb fun cdv A outer s H E hr => ?_
  have nd := sc_is_long.nd
  have hu := hu_of65 hr
  have hu64 := hu_of64 hr
  exact (ds_one (ds_ret (de_or (de_cmp op_isG ((de_ix ((de_var 0)).v (de_int).v)).v (de_non).v) (de_one (de_cmp op_gtG ((de_op op_subG ((de_ix ((de_var 0)).v (de_int).v)).v ((de_ix ((de_var 0)).v (de_int).v)).v)).v ((de_op op_mulG (de_int).v ((de_var 1)).v)).v)))))
theorem sc_do_fit : FnScope ["bar", "other", "e"] ["bar", "other", "e"] (defScope s_do_fit) := ⟨rfl, rfl, rfl, by decide +kernel, rfl, by decide +kernel, by decide +kernel⟩
set_option maxHeartbeats 4000000 in
theorem ok_do_fit (tp : Tp P w K mg base) (dd : DefAt K mg "do_fit" s_do_fit ["bar", "other", "e"])  : F0 P w K mg base "do_fit" 1 3 fm_do_fit := by
  obtain ⟨f, fd, F, hm, hb⟩ := dd
  refine fn_ok0 F sc_do_fit hm hb fun cdv A outer s H E hr => ?_
  have nd := sc_do_fit.nd
  have hu := hu_of65 hr
  have hu64 := hu_of64 hr
  exact (ds_cons (ds_if (dw_t (dw_or (dt_cmp op_gtG ((de_callB call_absG (by rfl) tp.m_abs (by decide +kernel) (dw_cons ((de_op op_subG ((de_ix ((de_var 0)).v (de_int).v)).v ((de_ix ((de_var 1)).v (de_int).v)).v)).v dw_nil))).v ((de_var 2)).v) (dw_or1 (dt_cmp (op_neG hu64) ((de_cmp op_isG ((de_ix ((de_var 0)).v (de_int).v)).v (de_non).v)).v ((de_cmp op_isG ((de_ix ((de_var 1)).v (de_int).v)).v (de_non).v)).v)))) (ds_one (ds_ret de_bl)) ds_nil) (ds_one (ds_ret (de_or (de_cmp op_isG ((de_ix ((de_var 0)).v (de_int).v)).v (de_non).v) (de_one (de_cmp op_leG ((de_callB call_absG (by rfl) tp.m_abs (by decide +kernel) (dw_cons ((de_op op_subG ((de_ix ((de_var 0)).v (de_int).v)).v ((de_ix ((de_var 1)).v (de_int).v)).v)).v dw_nil))).v ((de_var 2)).v))))))
theorem sc_back_along : FnScope ["came", "paired", "last", "found", "here", "source", "ahead"] ["came", "paired", "last"] (defScope s_back_along) := ⟨rfl, rfl, rfl, by decide +kernel, rfl, by decide +kernel, by decide +kernel⟩
set_option maxHeartbeats 4000000 in
theorem ok_back_along (tp : Tp P w K mg base) (dd : DefAt K mg "back_along" s_back_along ["came", "paired", "last"])  : F0 P w K mg base "back_along" 1 3 fm_back_along := by
  obtain ⟨f, fd, F, hm, hb⟩ := dd
  refine fn_ok0 F sc_back_along hm hb fun cdv A outer s H E hr => ?_
  have nd := sc_back_along.nd
  have hu := hu_of65 hr
  have hu64 := hu_of64 hr
  exact (ds_cons (ds_own 3 (df_callTy call_dictG (by rfl) tp.m_dict (by decide +kernel) (dw_cons ((de_var 1)).v dw_nil)) nd) (ds_cons (ds_set 4 (de_var 2) nd) (ds_cons (ds_while 100 PassesOwn.never (dt_cmp op_isnG ((de_var 4)).v (de_non).v) (ds_cons (ds_asg (de_dget hu ((de_var 0)).v ((de_var 4)).v) (dg_tup rfl (dg_cons (dg_name 5 nd) (dg_cons (dg_name 6 nd) dg_nil)) (cnt_cons (cnt_cons cnt_nil)))) (ds_cons (ds_dset 3 hu (de_var 5) (de_var 4)) (ds_one (ds_set 4 (de_var 6) nd))))) (ds_one (ds_frz 3 (ds_ret (de_var 3)))))))
theorem sc_way_from : FnScope ["mine", "others", "e", "paired", "begin", "holder", "came", "waiting", "lot", "here", "ahead", "there", "bar", "later", "found"] ["mine", "others", "e", "paired", "begin"] (defScope s_way_from) := ⟨rfl, rfl, rfl, by decide +kernel, rfl, by decide +kernel, by decide +kernel⟩
set_option maxHeartbeats 4000000 in
theorem ok_way_from (tp : Tp P w K mg base) (dd : DefAt K mg "way_from" s_way_from ["mine", "others", "e", "paired", "begin"]) (F_is_long : F0 P w K mg base "is_long" 1 2 fm_is_long) (F_do_fit : F0 P w K mg base "do_fit" 1 3 fm_do_fit) (F_back_along : F0 P w K mg base "back_along" 1 3 fm_back_along) : F0 P w K mg base "way_from" 2 5 fm_way_from := by
  obtain ⟨f, fd, F, hm, hb⟩ := dd
  refine fn_ok0 F sc_way_from hm hb fun cdv A outer s H E hr => ?_
  have nd := sc_way_from.nd
  have hu := hu_of65 hr
  have hu64 := hu_of64 hr
  exact (ds_cons (by first | exact (ds_dcM 5 rfl nd (dic_items (de_var 3)) (blkOk_by (own := [("here", 9), ("there", 11)]) (by kernel_rfl)) (fun _ _ _ _ _ => (dgc_tup rfl (dgc_cons (dgc_name 9 (by decide) nd) (dgc_cons (dgc_name 11 (by decide) nd) dgc_nil)) (cnt_cons (cnt_cons cnt_nil)))) (fun _ _ _ _ _ => dts_nil) (fun _ _ _ _ _ => (de_var 11)) (fun _ _ _ _ _ => (de_var 9))) | exact (ds_set 5 ((df_dc rfl nd (dic_items (de_var 3)) (blkOk_by (own := [("here", 9), ("there", 11)]) (by kernel_rfl)) (fun _ _ _ _ _ => (dgc_tup rfl (dgc_cons (dgc_name 9 (by decide) nd) (dgc_cons (dgc_name 11 (by decide) nd) dgc_nil)) (cnt_cons (cnt_cons cnt_nil)))) (fun _ _ _ _ _ => dts_nil) (fun _ _ _ _ _ => (de_var 11)) (fun _ _ _ _ _ => (de_var 9)))).d nd)) (ds_cons (by first | exact (ds_par3 rfl nd (dsl_f df_dK (dsl_f (df_lst (da_cons (de_tup (da_cons (de_var 4) (da_cons de_non da_nil))) da_nil)) (dsl_f (df_lst (da_cons (de_var 4) da_nil)) dsl_nil)))) | exact (ds_parT [6, 7, 8] (dsl_f df_dK (dsl_f (df_lst (da_cons (de_tup (da_cons (de_var 4) (da_cons de_non da_nil))) da_nil)) (dsl_f (df_lst (da_cons (de_var 4) da_nil)) dsl_nil))) rfl (pgs_cons (pg_name (i := 6) nd rfl (by first | exact .inl rfl | exact .inr rfl)) (pgs_cons (pg_name (i := 7) nd rfl (by first | exact .inl rfl | exact .inr rfl)) (pgs_cons (pg_name (i := 8) nd rfl (by first | exact .inl rfl | exact .inr rfl)) pgs_nil))))) (ds_cons (ds_while 100 PassesOwn.never (dt_cmp op_gtG ((de_callB call_lenG (by rfl) tp.m_len (by decide +kernel) (dw_cons (dv_own 7) dw_nil))).v (de_int).v) (ds_cons (ds_pop0 7 (dg_tup rfl (dg_cons (dg_name 9 nd) (dg_cons (dg_name 10 nd) dg_nil)) (cnt_cons (cnt_cons cnt_nil)))) (ds_one (ds_for PassesOwn.never rfl (di_enumA (by rfl) tp.m_enumerate (de_var 1)) (dg_tup rfl (dg_cons (dg_name 11 nd) (dg_cons (dg_name 12 nd) dg_nil)) (cnt_cons (cnt_cons cnt_nil))) (ds_cons (ds_if (dw_t (dw_or (dt_cmp (op_inG hu) ((de_var 11)).v (dv_own 6)) (dw_or1 (dt_not (dt_val (de_call0 F_do_fit hr (by rfl) (da_cons (de_ix ((de_var 0)).v ((de_var 9)).v) (da_cons (de_var 12) (da_cons (de_var 2) da_nil))) (cntA_cons (cntA_cons (cntA_cons cntA_nil))))))))) (ds_one ds_cont) ds_nil) (ds_cons (ds_dset 6 hu (de_var 11) (de_tup (da_cons (de_var 9) (da_cons (de_var 10) da_nil)))) (ds_cons (ds_if (dt_cmp (op_ninG hu) ((de_var 11)).v ((de_var 5)).v) (ds_one (ds_frz 6 (ds_ret (de_tup (da_cons (de_call0 F_back_along hr (by rfl) (da_cons (de_var 6) (da_cons (de_var 3) (da_cons (de_var 11) da_nil))) (cntA_cons (cntA_cons (cntA_cons cntA_nil)))) (da_cons de_non da_nil)))))) ds_nil) (ds_cons (ds_set 13 (de_dget hu ((de_var 5)).v ((de_var 11)).v) nd) (ds_cons (ds_if (dt_not (dt_val (de_call0 F_is_long hr (by rfl) (da_cons (de_ix ((de_var 0)).v ((de_var 13)).v) (da_cons (de_var 2) da_nil)) (cntA_cons (cntA_cons cntA_nil))))) (ds_cons (ds_own 14 (df_callTy call_dictG (by rfl) tp.m_dict (by decide +kernel) (dw_cons ((de_var 3)).v dw_nil)) nd) (ds_cons (ds_dpop 14 (de_var 13)) (ds_one (ds_frz 14 (ds_frz 6 (ds_ret (de_tup (da_cons (de_call0 F_back_along hr (by rfl) (da_cons (de_var 6) (da_cons (de_var 14) (da_cons (de_var 11) da_nil))) (cntA_cons (cntA_cons (cntA_cons cntA_nil)))) (da_cons de_non da_nil))))))))) ds_nil) (ds_cons (ds_app 8 (da_cons (de_var 13) da_nil)) (ds_one (ds_app 7 (da_cons (de_tup (da_cons (de_var 13) (da_cons (de_var 11) da_nil))) da_nil))))))))))))) (ds_one (ds_ret (de_tup (da_cons de_non (da_cons (de_callTy call_tupleG (by rfl) tp.m_tuple (by decide +kernel) (dw_cons ((df_callB call_sortedIG (by rfl) tp.m_sorted (by decide +kernel) (dw_cons (dv_own 8) dw_nil))).v dw_nil)) da_nil))))))))
theorem sc_with_all : FnScope ["mine", "others", "e", "paired", "here", "bar", "lot"] ["mine", "others", "e", "paired"] (defScope s_with_all) := ⟨rfl, rfl, rfl, by decide +kernel, rfl, by decide +kernel, by decide +kernel⟩
set_option maxHeartbeats 4000000 in
theorem ok_with_all (tp : Tp P w K mg base) (dd : DefAt K mg "with_all" s_with_all ["mine", "others", "e", "paired"]) (F_is_long : F0 P w K mg base "is_long" 1 2 fm_is_long) (F_way_from : F0 P w K mg base "way_from" 2 5 fm_way_from) : F0 P w K mg base "with_all" 3 4 fm_with_all := by
  obtain ⟨f, fd, F, hm, hb⟩ := dd
  refine fn_ok0 F sc_with_all hm hb fun cdv A outer s H E hr => ?_
  have nd := sc_with_all.nd
  have hu := hu_of65 hr
  have hu64 := hu_of64 hr
  exact (ds_cons (ds_for PassesOwn.never rfl (di_enumA (by rfl) tp.m_enumerate (de_var 0)) (dg_tup rfl (dg_cons (dg_name 4 nd) (dg_cons (dg_name 5 nd) dg_nil)) (cnt_cons (cnt_cons cnt_nil))) (ds_one (ds_if (dw_t (dw_and (dt_val (de_call0 F_is_long hr (by rfl) (da_cons (de_var 5) (da_cons (de_var 2) da_nil)) (cntA_cons (cntA_cons cntA_nil)))) (dw_and1 (dt_cmp (op_ninG hu) ((de_var 4)).v ((de_var 3)).v)))) (ds_cons (ds_asg (de_call0 F_way_from hr (by rfl) (da_cons (de_var 0) (da_cons (de_var 1) (da_cons (de_var 2) (da_cons (de_var 3) (da_cons (de_var 4) da_nil))))) (cntA_cons (cntA_cons (cntA_cons (cntA_cons (cntA_cons cntA_nil)))))) (dg_tup rfl (dg_cons (dg_name 3 nd) (dg_cons (dg_name 6 nd) dg_nil)) (cnt_cons (cnt_cons cnt_nil)))) (ds_one (ds_if (dt_cmp op_isnG ((de_var 6)).v (de_non).v) (ds_one (ds_ret (de_tup (da_cons de_non (da_cons (de_var 6) da_nil))))) ds_nil))) ds_nil))) (ds_one (ds_ret (de_tup (da_cons (de_var 3) (da_cons de_non da_nil))))))
theorem sc_paired_or_banned : FnScope ["one", "other", "e", "paired", "lot", "turned", "here", "there"] ["one", "other", "e"] (defScope s_paired_or_banned) := ⟨rfl, rfl, rfl, by decide +kernel, rfl, by decide +kernel, by decide +kernel⟩
set_option maxHeartbeats 4000000 in
theorem ok_paired_or_banned (tp : Tp P w K mg base) (dd : DefAt K mg "paired_or_banned" s_paired_or_banned ["one", "other", "e"]) (F_with_all : F0 P w K mg base "with_all" 3 4 fm_with_all) : F0 P w K mg base "paired_or_banned" 4 3 fm_paired_or_banned := by
  obtain ⟨f, fd, F, hm, hb⟩ := dd
  refine fn_ok0 F sc_paired_or_banned hm hb fun cdv A outer s H E hr => ?_
  have nd := sc_paired_or_banned.nd
  have hu := hu_of65 hr
  have hu64 := hu_of64 hr
  exact (ds_cons (ds_asg (de_call0 F_with_all hr (by rfl) (da_cons (de_var 0) (da_cons (de_var 1) (da_cons (de_var 2) (da_cons (df_dK).d da_nil)))) (cntA_cons (cntA_cons (cntA_cons (cntA_cons cntA_nil))))) (dg_tup rfl (dg_cons (dg_name 3 nd) (dg_cons (dg_name 4 nd) dg_nil)) (cnt_cons (cnt_cons cnt_nil)))) (ds_cons (ds_if (dt_cmp op_isnG ((de_var 4)).v (de_non).v) (ds_one (ds_ret (de_tup (da_cons de_non (da_cons (de_tup (da_cons de_int (da_cons (de_var 4) da_nil))) da_nil))))) ds_nil) (ds_cons (ds_asg (de_call0 F_with_all hr (by rfl) (da_cons (de_var 1) (da_cons (de_var 0) (da_cons (de_var 2) (da_cons ((df_dc rfl nd (dic_items (de_var 3)) (blkOk_by (own := [("here", 6), ("there", 7)]) (by kernel_rfl)) (fun _ _ _ _ _ => (dgc_tup rfl (dgc_cons (dgc_name 6 (by decide) nd) (dgc_cons (dgc_name 7 (by decide) nd) dgc_nil)) (cnt_cons (cnt_cons cnt_nil)))) (fun _ _ _ _ _ => dts_nil) (fun _ _ _ _ _ => (de_var 7)) (fun _ _ _ _ _ => (de_var 6)))).d da_nil)))) (cntA_cons (cntA_cons (cntA_cons (cntA_cons cntA_nil))))) (dg_tup rfl (dg_cons (dg_name 5 nd) (dg_cons (dg_name 4 nd) dg_nil)) (cnt_cons (cnt_cons cnt_nil)))) (ds_cons (ds_if (dt_cmp op_isnG ((de_var 4)).v (de_non).v) (ds_one (ds_ret (de_tup (da_cons de_non (da_cons (de_tup (da_cons de_int (da_cons (de_var 4) da_nil))) da_nil))))) ds_nil) (ds_one (ds_ret (de_tup (da_cons (de_callTy call_tupleG (by rfl) tp.m_tuple (by decide +kernel) (dw_cons ((df_callB call_sortedPG (by rfl) tp.m_sorted (by decide +kernel) (dw_cons ((df_lc rfl nd (dic_items (de_var 5)) (blkOk_by (own := [("there", 7), ("here", 6)]) (by kernel_rfl)) (fun _ _ _ _ _ => (dgc_tup rfl (dgc_cons (dgc_name 7 (by decide) nd) (dgc_cons (dgc_name 6 (by decide) nd) dgc_nil)) (cnt_cons (cnt_cons cnt_nil)))) (fun _ _ _ _ _ => dts_nil) (fun _ _ _ _ _ => (de_tup (da_cons (de_var 6) (da_cons (de_var 7) da_nil)))))).v dw_nil))).v dw_nil)) (da_cons de_non da_nil)))))))))
theorem sc_nearest : FnScope ["one", "other", "low", "high", "middle"] ["one", "other"] (defScope s_nearest) := ⟨rfl, rfl, rfl, by decide +kernel, rfl, by decide +kernel, by decide +kernel⟩
set_option maxHeartbeats 4000000 in
theorem ok_nearest (tp : Tp P w K mg base) (dd : DefAt K mg "nearest" s_nearest ["one", "other"]) (F_check_bars : F0 P w K mg base "check_bars" 4 1 fm_check_bars) (F_paired_or_banned : F0 P w K mg base "paired_or_banned" 4 3 fm_paired_or_banned) : F0 P w K mg base "nearest" 5 2 fm_nearest := by
  obtain ⟨f, fd, F, hm, hb⟩ := dd
  refine fn_ok0 F sc_nearest hm hb fun cdv A outer s H E hr => ?_
  have nd := sc_nearest.nd
  have hu := hu_of65 hr
  have hu64 := hu_of64 hr
  exact (ds_cons (ds_drop (de_call0 F_check_bars hr (by rfl) (da_cons (de_var 0) da_nil) (cntA_cons cntA_nil))) (ds_cons (ds_drop (de_call0 F_check_bars hr (by rfl) (da_cons (de_var 1) da_nil) (cntA_cons cntA_nil))) (ds_cons (ds_if (dt_cmp op_isG ((de_ix ((de_call0 F_paired_or_banned hr (by rfl) (da_cons (de_var 0) (da_cons (de_var 1) (da_cons (de_gintE (by rfl) tp.c_MOST_DISTANCE) da_nil))) (cntA_cons (cntA_cons (cntA_cons cntA_nil))))).v (de_int).v)).v (de_non).v) (ds_one (ds_ret de_non)) ds_nil) (ds_cons (by first | exact (ds_par2 rfl nd (dsl_m (de_un un_negG (de_int).v) (dsl_m (de_gintE (by rfl) tp.c_MOST_DISTANCE) dsl_nil))) | exact (ds_parT [2, 3] (dsl_m (de_un un_negG (de_int).v) (dsl_m (de_gintE (by rfl) tp.c_MOST_DISTANCE) dsl_nil)) rfl (pgs_cons (pg_name (i := 2) nd rfl (by first | exact .inl rfl | exact .inr rfl)) (pgs_cons (pg_name (i := 3) nd rfl (by first | exact .inl rfl | exact .inr rfl)) pgs_nil)))) (ds_cons (ds_while 20 PassesOwn.never (dt_cmp op_gtG ((de_op op_subG ((de_var 3)).v ((de_var 2)).v)).v (de_int).v) (ds_cons (ds_set 4 (de_op op_divG ((de_op op_addG ((de_var 2)).v ((de_var 3)).v)).v (de_int).v) nd) (ds_one (ds_if (dt_cmp op_isG ((de_ix ((de_call0 F_paired_or_banned hr (by rfl) (da_cons (de_var 0) (da_cons (de_var 1) (da_cons (de_var 4) da_nil))) (cntA_cons (cntA_cons (cntA_cons cntA_nil))))).v (de_int).v)).v (de_non).v) (ds_one (ds_set 2 (de_var 4) nd)) (ds_one (ds_set 3 (de_var 4) nd)))))) (ds_one (ds_ret (de_var 3))))))))
theorem sc_check_within : FnScope ["thing", "least", "most"] ["thing", "least", "most"] (defScope s_check_within) := ⟨rfl, rfl, rfl, by decide +kernel, rfl, by decide +kernel, by decide +kernel⟩
set_option maxHeartbeats 4000000 in
theorem ok_check_within (tp : Tp P w K mg base) (dd : DefAt K mg "check_within" s_check_within ["thing", "least", "most"]) (F_is_within : F0 P w K mg base "is_within" 2 3 fm_is_within) : F0 P w K mg base "check_within" 3 3 fm_check_within := by
  obtain ⟨f, fd, F, hm, hb⟩ := dd
  refine fn_ok0 F sc_check_within hm hb fun cdv A outer s H E hr => ?_
  have nd := sc_check_within.nd
  have hu := hu_of65 hr
  have hu64 := hu_of64 hr
  exact (ds_one (ds_if (dt_not (dt_val (de_call0 F_is_within hr (by rfl) (da_cons (de_var 0) (da_cons (de_var 1) (da_cons (de_var 2) da_nil))) (cntA_cons (cntA_cons (cntA_cons cntA_nil)))))) (ds_one ds_never) ds_nil))
theorem sc_check_asked : FnScope ["one", "other", "e"] ["one", "other", "e"] (defScope s_check_asked) := ⟨rfl, rfl, rfl, by decide +kernel, rfl, by decide +kernel, by decide +kernel⟩
set_option maxHeartbeats 4000000 in
theorem ok_check_asked (tp : Tp P w K mg base) (dd : DefAt K mg "check_asked" s_check_asked ["one", "other", "e"]) (F_check_bars : F0 P w K mg base "check_bars" 4 1 fm_check_bars) (F_check_within : F0 P w K mg base "check_within" 3 3 fm_check_within) : F0 P w K mg base "check_asked" 5 3 fm_check_asked := by
  obtain ⟨f, fd, F, hm, hb⟩ := dd
  refine fn_ok0 F sc_check_asked hm hb fun cdv A outer s H E hr => ?_
  have nd := sc_check_asked.nd
  have hu := hu_of65 hr
  have hu64 := hu_of64 hr
  exact (ds_cons (ds_drop (de_call0 F_check_bars hr (by rfl) (da_cons (de_var 0) da_nil) (cntA_cons cntA_nil))) (ds_cons (ds_drop (de_call0 F_check_bars hr (by rfl) (da_cons (de_var 1) da_nil) (cntA_cons cntA_nil))) (ds_one (ds_drop (de_call0 F_check_within hr (by rfl) (da_cons (de_var 2) (da_cons de_int (da_cons (de_gintE (by rfl) tp.c_MOST_DISTANCE) da_nil))) (cntA_cons (cntA_cons (cntA_cons cntA_nil))))))))
theorem sc_pairing : FnScope ["one", "other", "e"] ["one", "other", "e"] (defScope s_pairing) := ⟨rfl, rfl, rfl, by decide +kernel, rfl, by decide +kernel, by decide +kernel⟩
set_option maxHeartbeats 4000000 in
theorem ok_pairing (tp : Tp P w K mg base) (dd : DefAt K mg "pairing" s_pairing ["one", "other", "e"]) (F_check_asked : F0 P w K mg base "check_asked" 5 3 fm_check_asked) (F_paired_or_banned : F0 P w K mg base "paired_or_banned" 4 3 fm_paired_or_banned) : F0 P w K mg base "pairing" 6 3 fm_pairing := by
  obtain ⟨f, fd, F, hm, hb⟩ := dd
  refine fn_ok0 F sc_pairing hm hb fun cdv A outer s H E hr => ?_
  have nd := sc_pairing.nd
  have hu := hu_of65 hr
  have hu64 := hu_of64 hr
  exact (ds_cons (ds_drop (de_call0 F_check_asked hr (by rfl) (da_cons (de_var 0) (da_cons (de_var 1) (da_cons (de_var 2) da_nil))) (cntA_cons (cntA_cons (cntA_cons cntA_nil))))) (ds_one (ds_ret (de_ix ((de_call0 F_paired_or_banned hr (by rfl) (da_cons (de_var 0) (da_cons (de_var 1) (da_cons (de_var 2) da_nil))) (cntA_cons (cntA_cons (cntA_cons cntA_nil))))).v (de_int).v))))
theorem sc_ban : FnScope ["one", "other", "e"] ["one", "other", "e"] (defScope s_ban) := ⟨rfl, rfl, rfl, by decide +kernel, rfl, by decide +kernel, by decide +kernel⟩
set_option maxHeartbeats 4000000 in
theorem ok_ban (tp : Tp P w K mg base) (dd : DefAt K mg "ban" s_ban ["one", "other", "e"]) (F_check_asked : F0 P w K mg base "check_asked" 5 3 fm_check_asked) (F_paired_or_banned : F0 P w K mg base "paired_or_banned" 4 3 fm_paired_or_banned) : F0 P w K mg base "ban" 6 3 fm_ban := by
  obtain ⟨f, fd, F, hm, hb⟩ := dd
  refine fn_ok0 F sc_ban hm hb fun cdv A outer s H E hr => ?_
  have nd := sc_ban.nd
  have hu := hu_of65 hr
  have hu64 := hu_of64 hr
  exact (ds_cons (ds_drop (de_call0 F_check_asked hr (by rfl) (da_cons (de_var 0) (da_cons (de_var 1) (da_cons (de_var 2) da_nil))) (cntA_cons (cntA_cons (cntA_cons cntA_nil))))) (ds_one (ds_ret (de_ix ((de_call0 F_paired_or_banned hr (by rfl) (da_cons (de_var 0) (da_cons (de_var 1) (da_cons (de_var 2) da_nil))) (cntA_cons (cntA_cons (cntA_cons cntA_nil))))).v (de_int).v))))
theorem sc__law_shuffled : FnScope ["_law_bag_here", "_law_things", "_law_pool", "_law_found"] ["_law_bag_here", "_law_things"] (defScope s__law_shuffled) := ⟨rfl, rfl, rfl, by decide +kernel, rfl, by decide +kernel, by decide +kernel⟩
set_option maxHeartbeats 4000000 in
theorem ok__law_shuffled (tp : Tp P w K mg base) (dd : DefAt K mg "_law_shuffled" s__law_shuffled ["_law_bag_here", "_law_things"]) (F__law_pick : F0 P w K mg base "_law_pick" 1 2 fm__law_pick) : F0 P w K mg base "_law_shuffled" 2 2 fm__law_shuffled := by
  obtain ⟨f, fd, F, hm, hb⟩ := dd
  refine fn_ok0 F sc__law_shuffled hm hb fun cdv A outer s H E hr => ?_
  have nd := sc__law_shuffled.nd
  have hu := hu_of65 hr
  have hu64 := hu_of64 hr
  exact (ds_cons (by first | exact (ds_par2 rfl nd (dsl_f (df_callTy call_listG (by rfl) tp.m_list (by decide +kernel) (dw_cons ((de_var 1)).v dw_nil)) (dsl_f (df_lst da_nil) dsl_nil))) | exact (ds_parT [2, 3] (dsl_f (df_callTy call_listG (by rfl) tp.m_list (by decide +kernel) (dw_cons ((de_var 1)).v dw_nil)) (dsl_f (df_lst da_nil) dsl_nil)) rfl (pgs_cons (pg_name (i := 2) nd rfl (by first | exact .inl rfl | exact .inr rfl)) (pgs_cons (pg_name (i := 3) nd rfl (by first | exact .inl rfl | exact .inr rfl)) pgs_nil)))) (ds_cons (ds_while 30 PassesOwn.never (dt_cmp op_gtG ((de_callB call_lenG (by rfl) tp.m_len (by decide +kernel) (dw_cons (dv_own 2) dw_nil))).v (de_int).v) (ds_one (ds_appPop 3 2 (de_call0 F__law_pick hr (by rfl) (da_cons (de_var 0) (da_cons (de_callB call_lenG (by rfl) tp.m_len (by decide +kernel) (dw_cons (dv_own 2) dw_nil)) da_nil)) (cntA_cons (cntA_cons cntA_nil)))))) (ds_one (ds_frz 3 (ds_ret (de_var 3))))))
theorem sc_law : FnScope ["_law_script", "_law_bag_here", "_law_most", "_law_one", "_law_other", "_law_number", "_law_told"] ["_law_script"] (defScope s_law) := ⟨rfl, rfl, rfl, by decide +kernel, rfl, by decide +kernel, by decide +kernel⟩
set_option maxHeartbeats 4000000 in
theorem ok_law {f fB : Addr} {fd fdB : FuncData} (tp : Tp P w K mg base) (F : Fun K "law" "law" s_law f fd) (FB : FnOk P w K mg base CX0 1 fB fdB ["_law_script"] (spBag K)) (hmB : mg "_law_bag" = some (.ref fB)) (kpB : PySem.W.keepIn K (.ref fB) = true) (bB : Binds K fdB ["_law_script"] []) (F__law_lists : F0 P w K mg base "_law_lists" 4 3 fm__law_lists) (F__law_due : F0 P w K mg base "_law_due" 34 2 fm__law_due) (F__law_some : F0 P w K mg base "_law_some" 2 2 fm__law_some) (F_nearest : F0 P w K mg base "nearest" 5 2 fm_nearest) (F__law_pick : F0 P w K mg base "_law_pick" 1 2 fm__law_pick) (F_pairing : F0 P w K mg base "pairing" 6 3 fm_pairing) (F_ban : F0 P w K mg base "ban" 6 3 fm_ban) (F__law_shuffled : F0 P w K mg base "_law_shuffled" 2 2 fm__law_shuffled) (hs : Says 5 ms_law) : FnOk P w K mg base CX0 35 f fd ["_law_script"] (spLaw K) := by
  have nd := sc_law.nd
  refine F.ok sc_law (fun vs H Q E h => ?_) (fun cdv A outer s H vs Q E hr h => ?_)
  · obtain ⟨a, ns, rfl, _⟩ := h
    rfl
  · obtain ⟨a, ns, rfl, hS, hlen, q⟩ := h
    have hu := hu_of65 hr
    have hu64 := hu_of64 hr
    refine ⟨_, pss_cons (ps_set (i := 1) nd rfl (.inl rfl) (pe_call FB (hr.mono (by decide)) (by rfl) hmB kpB bB .nil pass0 (pa_cons (pv 0) pa_nil))) (show DSs _ E0 _ ms_law from (ds_cons (ds_set 2 (de_if (dt_cmp (op_eqG hu64) ((de_call0 F__law_pick hr (by rfl) (da_cons (de_var 1) (da_cons de_int da_nil)) (cntA_cons (cntA_cons cntA_nil)))).v (de_int).v) de_int de_int) nd) (ds_cons (ds_asg (de_call0 F__law_lists hr (by rfl) (da_cons (de_var 1) (da_cons (de_call0 F__law_some hr (by rfl) (da_cons (de_var 1) (da_cons ((df_lst (da_cons de_int (da_cons de_int (da_cons de_int da_nil))))).d da_nil)) (cntA_cons (cntA_cons cntA_nil))) (da_cons (de_var 2) da_nil))) (cntA_cons (cntA_cons (cntA_cons cntA_nil)))) (dg_tup rfl (dg_cons (dg_name 3 nd) (dg_cons (dg_name 4 nd) dg_nil)) (cnt_cons (cnt_cons cnt_nil)))) (ds_cons (ds_set 5 (de_call0 F__law_due hr (by rfl) (da_cons (de_var 3) (da_cons (de_var 4) da_nil)) (cntA_cons (cntA_cons cntA_nil))) nd) (ds_cons (ds_for PassesOwn.never rfl (di_seq (de_tup (da_cons (de_call0 F_nearest hr (by rfl) (da_cons (de_var 3) (da_cons (de_var 4) da_nil)) (cntA_cons (cntA_cons cntA_nil))) (da_cons (de_call0 F_nearest hr (by rfl) (da_cons (de_callTy call_tupleG (by rfl) tp.m_tuple (by decide +kernel) (dw_cons ((de_var 4)).v dw_nil)) (da_cons (de_var 3) da_nil)) (cntA_cons (cntA_cons cntA_nil))) da_nil)))) (dg_name 6 nd) (ds_one (ds_if (dw_t (dw_or (dt_cmp (op_neG hu64) ((de_cmp op_isG ((de_var 6)).v (de_non).v)).v ((de_cmp op_isG ((de_var 5)).v (de_non).v)).v) (dw_or (dt_val (de_isi (by rfl) tp.m_isinstance (by rfl) tp.m_bool (by decide +kernel) ((de_var 6)).v)) (dw_or1 (dt_cmp (op_neG hu64) ((de_var 6)).v ((de_var 5)).v))))) (ds_one (ds_ret de_bl)) ds_nil))) (ds_cons (ds_if (dt_cmp op_isG ((de_var 5)).v (de_non).v) (ds_one (ds_ret (de_and (de_cmp op_isG ((de_call0 F_pairing hr (by rfl) (da_cons (de_var 3) (da_cons (de_var 4) (da_cons de_int da_nil))) (cntA_cons (cntA_cons (cntA_cons cntA_nil))))).v (de_non).v) (de_one (de_cmp op_isnG ((de_call0 F_ban hr (by rfl) (da_cons (de_var 3) (da_cons (de_var 4) (da_cons de_int da_nil))) (cntA_cons (cntA_cons (cntA_cons cntA_nil))))).v (de_non).v))))) ds_nil) (ds_cons (ds_if (dw_t (dw_or (dt_cmp op_isG ((de_call0 F_pairing hr (by rfl) (da_cons (de_var 3) (da_cons (de_var 4) (da_cons (de_var 5) da_nil))) (cntA_cons (cntA_cons (cntA_cons cntA_nil))))).v (de_non).v) (dw_or1 (dt_cmp op_isnG ((de_call0 F_ban hr (by rfl) (da_cons (de_var 3) (da_cons (de_var 4) (da_cons (de_var 5) da_nil))) (cntA_cons (cntA_cons (cntA_cons cntA_nil))))).v (de_non).v)))) (ds_one (ds_ret de_bl)) ds_nil) (ds_cons (ds_if (dw_t (dw_and (dt_cmp op_gtG ((de_var 5)).v (de_int).v) (dw_and1 (dw_t (dw_or (dt_cmp op_isnG ((de_call0 F_pairing hr (by rfl) (da_cons (de_var 3) (da_cons (de_var 4) (da_cons (de_op op_subG ((de_var 5)).v (de_int).v) da_nil))) (cntA_cons (cntA_cons (cntA_cons cntA_nil))))).v (de_non).v) (dw_or1 (dt_cmp op_isG ((de_call0 F_ban hr (by rfl) (da_cons (de_var 3) (da_cons (de_var 4) (da_cons (de_op op_subG ((de_var 5)).v (de_int).v) da_nil))) (cntA_cons (cntA_cons (cntA_cons cntA_nil))))).v (de_non).v))))))) (ds_one (ds_ret de_bl)) ds_nil) (ds_one (ds_ret (de_cmp (op_eqG hu64) ((de_call0 F_nearest hr (by rfl) (da_cons (de_var 3) (da_cons (de_call0 F__law_shuffled hr (by rfl) (da_cons (de_var 1) (da_cons (de_var 3) da_nil)) (cntA_cons (cntA_cons cntA_nil))) da_nil)) (cntA_cons (cntA_cons cntA_nil)))).v (de_int).v))))))))))), ?_⟩
    exact ⟨.ref a, rfl, a, ns, rfl, hS, hlen, fun H' pb pg gr sd ln _ _ ne hb hg hz => law_tail hs q rfl ne hb hg hz rfl⟩
theorem all_ok {h : Heap} {fa : Addr} (X : K.In h) (G : h.Ns mainGlobals mg) (hfa : mg "law" = some (.ref fa)) {fl : Addr} {oc : Value} {od an : Option Addr} {osl : Array (Option Value)} {kV doc pm cdv ct : Value}
    (aL : PySem.W.nsIn K mainGlobals "law" = some (some (.ref fl))) (lL : K.lookup fl = some ⟨oc, od, .func (PySem.W.fnOf "law" "law" (defArgs s_law) (defBody s_law) (defScope s_law) .none kV doc pm an cdv ct), osl⟩) (cL : PySem.W.codeIn K cdv "law" = true) (kL : PySem.W.keepIn K (.ref fl) = true)
    (d__law_bag : DefAt K mg "_law_bag" s__law_bag ["_law_script"]) (d__law_pick : DefAt K mg "_law_pick" s__law_pick ["_law_bag_here", "_law_many"]) (d__law_some : DefAt K mg "_law_some" s__law_some ["_law_bag_here", "_law_things"]) (d__law_bar : DefAt K mg "_law_bar" s__law_bar ["_law_bag_here", "_law_wide"]) (d__law_moved : DefAt K mg "_law_moved" s__law_moved ["_law_bag_here", "_law_bar_here", "_law_wide"]) (d__law_lists : DefAt K mg "_law_lists" s__law_lists ["_law_bag_here", "_law_wide", "_law_most"]) (d__law_steps : DefAt K mg "_law_steps" s__law_steps ["_law_one", "_law_other"]) (d__law_is_long : DefAt K mg "_law_is_long" s__law_is_long ["_law_bar", "_law_e"]) (d__law_fits : DefAt K mg "_law_fits" s__law_fits ["_law_bar", "_law_other", "_law_e"]) (d__law_paired : DefAt K mg "_law_paired" s__law_paired ["_law_one", "_law_other", "_law_e", "_law_used", "_law_at"]) (d__law_found_for : DefAt K mg "_law_found_for" s__law_found_for ["_law_at", "_law_edges", "_law_taken", "_law_seen"]) (d__law_all_found : DefAt K mg "_law_all_found" s__law_all_found ["_law_one", "_law_other", "_law_e"]) (d__law_is_there : DefAt K mg "_law_is_there" s__law_is_there ["_law_one", "_law_other", "_law_e"]) (d__law_due : DefAt K mg "_law_due" s__law_due ["_law_one", "_law_other"]) (d_is_integer : DefAt K mg "is_integer" s_is_integer ["thing"]) (d_is_within : DefAt K mg "is_within" s_is_within ["thing", "least", "most"]) (d_is_bar : DefAt K mg "is_bar" s_is_bar ["thing"]) (d_check_bars : DefAt K mg "check_bars" s_check_bars ["thing"]) (d_is_long : DefAt K mg "is_long" s_is_long ["bar", "e"]) (d_do_fit : DefAt K mg "do_fit" s_do_fit ["bar", "other", "e"]) (d_back_along : DefAt K mg "back_along" s_back_along ["came", "paired", "last"]) (d_way_from : DefAt K mg "way_from" s_way_from ["mine", "others", "e", "paired", "begin"]) (d_with_all : DefAt K mg "with_all" s_with_all ["mine", "others", "e", "paired"]) (d_paired_or_banned : DefAt K mg "paired_or_banned" s_paired_or_banned ["one", "other", "e"]) (d_nearest : DefAt K mg "nearest" s_nearest ["one", "other"]) (d_check_within : DefAt K mg "check_within" s_check_within ["thing", "least", "most"]) (d_check_asked : DefAt K mg "check_asked" s_check_asked ["one", "other", "e"]) (d_pairing : DefAt K mg "pairing" s_pairing ["one", "other", "e"]) (d_ban : DefAt K mg "ban" s_ban ["one", "other", "e"]) (d__law_shuffled : DefAt K mg "_law_shuffled" s__law_shuffled ["_law_bag_here", "_law_things"]) (tp0 : Tp P w K mg h) (hs : Says 5 ms_law) :
    ∃ fd : FuncData, (∀ (s : Shared) (v : Value), BindsTo s fd ⟨[v], []⟩ [("_law_script", v)]) ∧ ∀ base : Heap, K.In base → base.Ns mainGlobals mg → FnOk P w K mg base CX0 35 fa fd ["_law_script"] (spLaw K) := by
  have e := hfa.symm.trans (PySem.W.mg_of X G aL)
  cases e
  have FL := fun_mk (st := s_law) lL cL kL
  refine ⟨PySem.W.fnOf "law" "law" (defArgs s_law) (defBody s_law) (defScope s_law) .none kV doc pm an cdv ct, fun s v => .of_eq rfl, fun base _ _ => ?_⟩
  have tp : Tp P w K mg base := by cases tp0; constructor <;> assumption
  obtain ⟨fB, fdB, FB, mB, bB⟩ := d__law_bag
  have F__law_pick : F0 P w K mg base "_law_pick" 1 2 fm__law_pick := ok__law_pick tp d__law_pick 
  have F__law_some : F0 P w K mg base "_law_some" 2 2 fm__law_some := ok__law_some tp d__law_some F__law_pick
  have F__law_bar : F0 P w K mg base "_law_bar" 3 2 fm__law_bar := ok__law_bar tp d__law_bar F__law_pick F__law_some
  have F__law_moved : F0 P w K mg base "_law_moved" 2 3 fm__law_moved := ok__law_moved tp d__law_moved F__law_pick
  have F__law_lists : F0 P w K mg base "_law_lists" 4 3 fm__law_lists := ok__law_lists tp d__law_lists F__law_bar F__law_pick F__law_moved
  have F__law_steps : F0 P w K mg base "_law_steps" 1 2 fm__law_steps := ok__law_steps tp d__law_steps 
  have F__law_is_long : F0 P w K mg base "_law_is_long" 4 2 fm__law_is_long := ok__law_is_long tp d__law_is_long F__law_bar
  have F__law_fits : F0 P w K mg base "_law_fits" 4 3 fm__law_fits := ok__law_fits tp d__law_fits F__law_bar
  have F__law_paired : F0 P w K mg base "_law_paired" 11 5 fm__law_paired := ok__law_paired tp d__law_paired F__law_bar F__law_is_long F__law_fits
  have F__law_found_for : Fk P w K mg base CX0 "_law_found_for" 31 4 (spFF K 30) := okN__law_found_for tp d__law_found_for 30
  have F__law_all_found : F0 P w K mg base "_law_all_found" 32 3 fm__law_all_found := ok__law_all_found tp d__law_all_found F__law_bar F__law_is_long F__law_fits F__law_found_for
  have F__law_is_there : F0 P w K mg base "_law_is_there" 33 3 fm__law_is_there := ok__law_is_there tp d__law_is_there F__law_paired F__law_all_found
  have F__law_due : F0 P w K mg base "_law_due" 34 2 fm__law_due := ok__law_due tp d__law_due F__law_steps F__law_is_there
  have F_is_integer : F0 P w K mg base "is_integer" 1 1 fm_is_integer := ok_is_integer tp d_is_integer 
  have F_is_within : F0 P w K mg base "is_within" 2 3 fm_is_within := ok_is_within tp d_is_within F_is_integer
  have F_is_bar : F0 P w K mg base "is_bar" 3 1 fm_is_bar := ok_is_bar tp d_is_bar F_is_within
  have F_check_bars : F0 P w K mg base "check_bars" 4 1 fm_check_bars := ok_check_bars tp d_check_bars F_is_bar
  have F_is_long : F0 P w K mg base "is_long" 1 2 fm_is_long := ok_is_long tp d_is_long 
  have F_do_fit : F0 P w K mg base "do_fit" 1 3 fm_do_fit := ok_do_fit tp d_do_fit 
  have F_back_along : F0 P w K mg base "back_along" 1 3 fm_back_along := ok_back_along tp d_back_along 
  have F_way_from : F0 P w K mg base "way_from" 2 5 fm_way_from := ok_way_from tp d_way_from F_is_long F_do_fit F_back_along
  have F_with_all : F0 P w K mg base "with_all" 3 4 fm_with_all := ok_with_all tp d_with_all F_is_long F_way_from
  have F_paired_or_banned : F0 P w K mg base "paired_or_banned" 4 3 fm_paired_or_banned := ok_paired_or_banned tp d_paired_or_banned F_with_all
  have F_nearest : F0 P w K mg base "nearest" 5 2 fm_nearest := ok_nearest tp d_nearest F_check_bars F_paired_or_banned
  have F_check_within : F0 P w K mg base "check_within" 3 3 fm_check_within := ok_check_within tp d_check_within F_is_within
  have F_check_asked : F0 P w K mg base "check_asked" 5 3 fm_check_asked := ok_check_asked tp d_check_asked F_check_bars F_check_within
  have F_pairing : F0 P w K mg base "pairing" 6 3 fm_pairing := ok_pairing tp d_pairing F_check_asked F_paired_or_banned
  have F_ban : F0 P w K mg base "ban" 6 3 fm_ban := ok_ban tp d_ban F_check_asked F_paired_or_banned
  have F__law_shuffled : F0 P w K mg base "_law_shuffled" 2 2 fm__law_shuffled := ok__law_shuffled tp d__law_shuffled F__law_pick
  exact ok_law tp FL (ok__law_bag tp tp.m_abs FB) mB FB.kp bB F__law_lists F__law_due F__law_some F_nearest F__law_pick F_pairing F_ban F__law_shuffled hs
end
/-! ### bars -/
abbrev Br := Int × Option Int
def encG : Option Int → D
  | none => .non
  | some g => .int g
def encB (x : Br) : D := .tup [.int x.1, encG x.2]
def encL (l : List Br) : D := .lst (l.map encB)
theorem pl_encG (g : Option Int) : Pl (encG g) := by cases g <;> constructor
theorem pl_encB (x : Br) : Pl (encB x) := .tup (by
  intro d hd
  simp only [List.mem_cons, List.mem_nil_iff, or_false] at hd
  rcases hd with rfl | rfl
  · exact .int _
  · exact pl_encG _)
def okB (x : Br) : Bool := decide (-1000 ≤ x.1 ∧ x.1 ≤ 1000) && match x.2 with
  | none => true
  | some g => decide (x.1 + 1 ≤ g ∧ g ≤ 1000)
def withB (d : D) (l m : Int) : Bool := match d with
  | .int i => decide (l ≤ i) && decide (i ≤ m)
  | _ => false
theorem v_is_integer {d : D} {b : Bag} (h : Pl d) : fm_is_integer [d] b = .ok (.bl (intB d)) b := by
  simp [fm_is_integer, e_fnM, ms_is_integer, isi_int h, isi_bool h]
  cases h <;> rfl
theorem v_is_within {d : D} {l m : Int} {b : Bag} (h : Pl d) : fm_is_within [d, .int l, .int m] b = .ok (.bl (withB d l m)) b := by
  simp [fm_is_within, e_fnM, ms_is_within, v_is_integer h]
  cases h <;> simp [intB, withB]
  split <;> simp [*]
theorem v_is_bar {x : Br} {b : Bag} (h : okB x = true) : fm_is_bar [encB x] b = .ok (.bl true) b := by
  obtain ⟨p, g⟩ := x
  unfold encB
  cases g with
  | none =>
    simp [okB] at h
    simp [fm_is_bar, e_fnM, ms_is_bar, encG, v_is_within (.int p), withB, h]
  | some q =>
    simp [okB] at h
    simp [fm_is_bar, e_fnM, ms_is_bar, encG, v_is_within (.int p), v_is_within (.int q), withB, h]
theorem v_check_bars {l : List Br} {b : Bag} (h : l.all okB = true) (hl : l.length ≤ 20) : fm_check_bars [encL l] b = .ok .non b := by
  have hl2 : ¬ 20 < l.length := by omega
  have hl3 : l.length ≤ 100000 := by omega
  have hc := lc_all (g := gNm 1) (me := mCall0 fm_is_bar (mCons (mVar 1) mNil)) (env := [.va (encL l), .un]) (b := b) l encB (fun _ => .bl true) fun x hx => ⟨_, rfl, by simp [v_is_bar (List.all_eq_true.mp h x hx)]⟩
  unfold encL at hc ⊢
  simp [fm_check_bars, e_fnM, ms_check_bars, hl2, hl3, hc]
  simp [Int.not_lt.mpr (show (l.length : Int) ≤ 20 by omega)]
theorem v_check_within {i l m : Int} {b : Bag} (h : l ≤ i ∧ i ≤ m) : fm_check_within [.int i, .int l, .int m] b = .ok .non b := by
  simp [fm_check_within, e_fnM, ms_check_within, v_is_within (.int i), withB, h]
theorem v_check_asked {l m : List Br} {e : Int} {b : Bag} (h : l.all okB = true) (hl : l.length ≤ 20) (h2 : m.all okB = true) (hm : m.length ≤ 20) (he : 0 ≤ e ∧ e ≤ 2000) : fm_check_asked [encL l, encL m, .int e] b = .ok .non b := by
  simp [fm_check_asked, e_fnM, ms_check_asked, v_check_bars h hl, v_check_bars h2 hm, v_check_within he]
def longB (e : Int) (x : Br) : Bool := match x.2 with
  | none => true
  | some g => decide (2 * e < g - x.1)
def fitB (e : Int) (x y : Br) : Bool := decide (absI (x.1 - y.1) ≤ e) && match x.2, y.2 with
  | none, none => true
  | some g, some h => decide (absI (g - h) ≤ e)
  | _, _ => false
theorem small2 : smallI 2 = true := by decide
theorem v_is_long {x : Br} {e : Int} {b : Bag} : fm_is_long [encB x, .int e] b = .ok (.bl (longB e x)) b := by
  obtain ⟨p, g⟩ := x
  cases g <;> simp [fm_is_long, e_fnM, ms_is_long, encB, encG, longB, small2]
theorem v_law_is_long {x : Br} {e : Int} {b : Bag} : fm__law_is_long [encB x, .int e] b = .ok (.bl (longB e x)) b := by
  obtain ⟨p, g⟩ := x
  cases g <;> simp [fm__law_is_long, e_fnM, ms__law_is_long, encB, encG, longB, small2]
theorem v_do_fit {x y : Br} {e : Int} {b : Bag} : fm_do_fit [encB x, encB y, .int e] b = .ok (.bl (fitB e x y)) b := by
  obtain ⟨p, g⟩ := x
  obtain ⟨q, k⟩ := y
  cases g <;> cases k <;> simp [fm_do_fit, e_fnM, ms_do_fit, encB, encG, fitB] <;> split <;> simp_all <;> omega
theorem v_law_fits {x y : Br} {e : Int} {b : Bag} : fm__law_fits [encB x, encB y, .int e] b = .ok (.bl (fitB e x y)) b := by
  obtain ⟨p, g⟩ := x
  obtain ⟨q, k⟩ := y
  cases g <;> cases k <;> simp [fm__law_fits, e_fnM, ms__law_fits, encB, encG, fitB] <;> split <;> simp_all <;> omega
theorem v_is_number {d : D} {m : Int} {b : Bag} (h : Pl d) : fm_is_number [d, .int m] b = .ok (.bl (withB d 0 m)) b := by
  simp [fm_is_number, e_fnM, ms_is_number, v_is_within h]
theorem v_law_is_number {d : D} {m : Int} {b : Bag} (h : Pl d) : fm__law_is_number [d, .int m] b = .ok (.bl (withB d 0 (m - 1))) b := by
  simp [fm__law_is_number, e_fnM, ms__law_is_number, isi_int h, isi_bool h]
  cases h <;> simp [isInB, isBl, withB]
  split <;> simp [*] <;> omega

/-! ### pairings -/
def pairB (n m : Int) (d : D) : Bool := match d with
  | .tup [x, y] => withB x 0 (n - 1) && withB y 0 (m - 1)
  | _ => false
theorem v_is_number_pair {d : D} {n m : Int} {b : Bag} (h : Pl d) : fm_is_number_pair [d, .int n, .int m] b = .ok (.bl (pairB n m d)) b := by
  cases h with
  | tup h =>
    rename_i ds
    match ds, h with
    | [], h => simp [fm_is_number_pair, e_fnM, ms_is_number_pair, pairB]
    | [x], h => simp [fm_is_number_pair, e_fnM, ms_is_number_pair, pairB]
    | [x, y], h =>
      have hx := h x (by simp)
      have hy := h y (by simp)
      simp [fm_is_number_pair, e_fnM, ms_is_number_pair, pairB, v_is_number hx, v_is_number hy]
      cases withB x 0 (n - 1) <;> simp
    | x :: y :: z :: r, h =>
      have : ¬ ((r.length : Int) + 1 + 1 + 1 = 2) := by omega
      simp [fm_is_number_pair, e_fnM, ms_is_number_pair, pairB, this]
  | _ => simp [fm_is_number_pair, e_fnM, ms_is_number_pair, pairB, isi_tuple (.dK _ _), isTup]
def encN (p : Nat × Nat) : D := .tup [.int p.1, .int p.2]
theorem pair_of {n m : Nat} {d : D} (h : pairB n m d = true) : ∃ p : Nat × Nat, d = encN p ∧ p.1 < n ∧ p.2 < m := by
  match d, h with
  | .tup [x, y], h =>
    unfold pairB at h
    rw [Bool.and_eq_true] at h
    match x, y, h with
    | .int i, .int j, h =>
      simp [withB] at h
      refine ⟨(i.toNat, j.toNat), ?_, by show i.toNat < n; omega, by show j.toNat < m; omega⟩
      show _ = D.tup [.int (i.toNat : Nat), .int (j.toNat : Nat)]
      rw [Int.toNat_of_nonneg (by omega), Int.toNat_of_nonneg (by omega)]
theorem pairs_of {n m : Nat} {ds : List D} (h : ds.all (pairB n m) = true) : ∃ ps : List (Nat × Nat), ds = ps.map encN ∧ ∀ p ∈ ps, p.1 < n ∧ p.2 < m := by
  induction ds with
  | nil => exact ⟨[], rfl, by simp⟩
  | cons d ds ih =>
    rw [List.all_cons, Bool.and_eq_true] at h
    obtain ⟨p, rfl, hp⟩ := pair_of h.1
    obtain ⟨ps, rfl, hps⟩ := ih h.2
    refine ⟨p :: ps, rfl, fun q hq => ?_⟩
    rcases List.mem_cons.mp hq with rfl | hq
    · exact hp
    · exact hps q hq
theorem pl_encN (p : Nat × Nat) : Pl (encN p) := .tup (by intro d hd; simp at hd; rcases hd with rfl | rfl <;> constructor)
theorem pair_encN {n m : Nat} {p : Nat × Nat} (h : p.1 < n ∧ p.2 < m) : pairB n m (encN p) = true := by
  unfold encN pairB withB
  simp
  omega
/-! dict comprehensions -/
theorem dc_go {ι : Type} {g : MG} {kl el : ME} {env : Ev} {b : Bag} (l : List ι) (enc : ι → D) (k : ι → Key) (v : ι → D) (h : ∀ x ∈ l, ∃ env1 y, g (enc x) env = some env1 ∧ kl env1 b = .ok y b ∧ keyD y = some (k x) ∧ el env1 b = .ok (v x) b) :
    ∀ (ks : List Key) (vs : List D), ks.length = vs.length → ∃ vs', dcL g mYes kl el env (l.map enc) ks vs b = .ok ((l.map k).foldl putKs ks, vs') b ∧ ((l.map k).foldl putKs ks).length = vs'.length := by
  induction l with
  | nil => exact fun ks vs e => ⟨vs, rfl, e⟩
  | cons x l ih =>
    intro ks vs e
    obtain ⟨env1, y, h1, h2, h3, h4⟩ := h x List.mem_cons_self
    have e2 : (putKs ks (k x)).length = (putDs ks vs (k x) (v x)).length := by
      unfold putKs putDs
      split
      · rw [List.length_zipWith]; omega
      · rw [List.length_append, List.length_append, e]; rfl
    obtain ⟨vs', e3, e4⟩ := ih (fun z hz => h z (List.mem_cons_of_mem _ hz)) (putKs ks (k x)) (putDs ks vs (k x) (v x)) e2
    refine ⟨vs', ?_, e4⟩
    rw [List.map_cons]
    unfold dcL
    rw [h1]
    dsimp only
    simp [h2, h4, h3]
    exact e3
instance decKey (k : Key) (ks : List Key) : Decidable (k ∈ ks) := @List.instDecidableMemOfLawfulBEq Key instBEqOfDecidableEq inferInstance k ks
theorem getK_mem : ∀ {ks : List Key} {vs : List D} {k : Key}, ks.length = vs.length → (getK ks vs k).isSome = decide (k ∈ ks)
  | [], vs, k, _ => by simp [getK]
  | k' :: ks, [], k, e => by simp at e
  | k' :: ks, v :: vs, k, e => by
    unfold getK
    split
    · rename_i h; simp [h]
    · rename_i h
      rw [getK_mem (by simpa using e)]
      simp [Ne.symm h]
theorem put_mem {ss ks : List Key} {k : Key} : k ∈ ss.foldl putKs ks ↔ k ∈ ks ∨ k ∈ ss := by
  induction ss generalizing ks with
  | nil => simp
  | cons s ss ih =>
    rw [List.foldl_cons, ih]
    by_cases h : s ∈ ks
    · rw [show putKs ks s = ks from if_pos h]
      constructor
      · rintro (h1 | h1)
        · exact .inl h1
        · exact .inr (List.mem_cons_of_mem _ h1)
      · rintro (h1 | h1)
        · exact .inl h1
        · rcases List.mem_cons.mp h1 with rfl | h1
          · exact .inl h
          · exact .inr h1
    · rw [show putKs ks s = ks ++ [s] from if_neg h]
      simp [or_assoc]
theorem put_len {ss ks : List Key} (hk : ks.Nodup) : (ss.foldl putKs ks).length ≤ ks.length + ss.length ∧ ((ss.foldl putKs ks).length = ks.length + ss.length ↔ (ks ++ ss).Nodup) := by
  induction ss generalizing ks with
  | nil => simp [hk]
  | cons s ss ih =>
    rw [List.foldl_cons]
    by_cases h : s ∈ ks
    · rw [show putKs ks s = ks from if_pos h]
      have ih := (ih hk).1
      refine ⟨by simp; omega, ⟨fun e => by simp at e; omega, fun n => ?_⟩⟩
      rw [List.nodup_append] at n
      exact absurd rfl (n.2.2 s h s List.mem_cons_self)
    · rw [show putKs ks s = ks ++ [s] from if_neg h]
      have ih := ih (ks := ks ++ [s]) (by
        rw [List.nodup_append]
        refine ⟨hk, by simp, fun a ha c hc => ?_⟩
        simp at hc
        rintro rfl
        exact h (hc ▸ ha))
      simp only [List.length_append, List.length_cons, List.length_nil, List.append_assoc, List.cons_append, List.nil_append] at ih ⊢
      exact ⟨by omega, by rw [← ih.2]; omega⟩
def kOf (i : Nat) : Key := .inl (i : Int)
theorem kOf_inj {i j : Nat} (h : kOf i = kOf j) : i = j := by
  have := Sum.inl.inj h
  omega
theorem put_lt {ss : List Nat} : decide (((ss.map kOf).foldl putKs []).length < ss.length) = !decide ss.Nodup := by
  have h := put_len (ss := ss.map kOf) (ks := []) (by simp)
  simp only [List.length_nil, List.nil_append, List.length_map, Nat.zero_add] at h
  have hn : (ss.map kOf).Nodup ↔ ss.Nodup := by
    constructor
    · intro h
      exact (List.pairwise_map.mp h).imp fun ne e => ne (congrArg kOf e)
    · intro h
      exact List.pairwise_map.mpr (h.imp fun ne e => ne (kOf_inj e))
  rw [hn] at h
  by_cases hd : ss.Nodup
  · rw [h.2.mpr hd]; simp [hd]
  · simp [hd]
    have : ((ss.map kOf).foldl putKs []).length ≠ ss.length := fun e => hd (h.2.mp e)
    omega
theorem put_in {ss : List Nat} {i : Nat} : decide (kOf i ∈ (ss.map kOf).foldl putKs []) = ss.contains i := by
  rw [Bool.eq_iff_iff, decide_eq_true_iff, put_mem]
  simp only [List.not_mem_nil, false_or, List.mem_map, List.contains_iff_mem]
  constructor
  · rintro ⟨j, h, e⟩
    rw [← kOf_inj e]
    exact h
  · exact fun h => ⟨i, h, rfl⟩
/-! rising -/
def ascB (ns : List Nat) : Bool := (List.range (ns.length - 1)).all fun i => decide (ns.getD i 0 < ns.getD (i + 1) 0)
theorem asc_cons {a c : Nat} {ns : List Nat} : ascB (a :: c :: ns) = (decide (a < c) && ascB (c :: ns)) := by
  unfold ascB
  simp only [List.length_cons, Nat.add_sub_cancel]
  rw [List.range_succ_eq_map, List.all_cons, List.all_map]
  rfl

@[simp] theorem e_dc {mi : MI} {g : MG} {t : MT} {kl el : ME} {vs : List Nat} {env : Ev} {b : Bag} : mDc mi g t kl el vs env b = (mi env b).bind fun ds b => if ds.length ≤ 100000 then (dcL g t kl el (wipeE env vs) ds [] [] b).bind fun r b => .ok (.dK r.1 r.2) b else .stuck := rfl
@[simp] theorem o_lenD {ks : List Key} {ds : List D} : lenG [.dK ks ds] = some (.int ks.length) := rfl
theorem o_inD {neg : Bool} {i : Nat} {ks : List Key} {ds : List D} (h : ks.length = ds.length) : inG neg (.int i) (.dK ks ds) = some (.bl (neg ^^ decide (kOf i ∈ ks))) := by
  show ((keyD (.int i)).map fun k => D.bl (neg ^^ (getK ks ds k).isSome)) = _
  show some (D.bl (neg ^^ (getK ks ds (kOf i)).isSome)) = _
  rw [getK_mem h]
theorem at_map {ι : Type} {l : List ι} {enc : ι → D} {k : Nat} (h : k < l.length) : atI (l.map enc) (k : Int) = some (enc l[k]) := by
  rw [at_nat, List.getElem?_map, List.getElem?_eq_getElem h]
  rfl
theorem enum_map {ι : Type} (enc : ι → D) : ∀ (l : List ι) (k : Nat), enumD k (l.map enc) = (l.zipIdx k).map fun x => .tup [.int x.2, enc x.1]
  | [], k => rfl
  | x :: l, k => by rw [List.map_cons, enumD, enum_map enc l (k + 1)]; rfl
/-- a bar at a place -/
def atB (l : List Br) (k : Nat) : Br := l.getD k (0, none)
theorem atB_get {l : List Br} {k : Nat} (h : k < l.length) : atI (l.map encB) (k : Int) = some (encB (atB l k)) := by
  rw [at_map h]
  unfold atB
  rw [List.getD_eq_getElem?_getD, List.getElem?_eq_getElem h]
  rfl
def leftB (e : Int) (l : List Br) (is : List Nat) : Bool := l.zipIdx.any fun x => longB e x.1 && !is.contains x.2
def goodP (l m : List Br) (e : Int) (ps : List (Nat × Nat)) : Bool :=
  ascB (ps.map (·.1)) && decide (ps.map (·.2)).Nodup && ps.all (fun p => fitB e (atB l p.1) (atB m p.2)) && !leftB e l (ps.map (·.1)) && !leftB e m (ps.map (·.2))
structure Asked (l m : List Br) (e : Int) : Prop where
  l1 : l.all okB = true
  l2 : l.length ≤ 20
  m1 : m.all okB = true
  m2 : m.length ≤ 20
  e0 : 0 ≤ e
  e1 : e ≤ 2000
theorem map_ints (f : Nat × Nat → Nat) (ps : List (Nat × Nat)) : (ps.map fun p => D.int (f p : Nat)) = ((ps.map f).map fun i : Nat => (i : Int)).map D.int := by simp [Function.comp_def]
theorem con_ints (is : List Nat) (i : Nat) : (is.map fun i : Nat => (i : Int)).contains (i : Int) = is.contains i := by
  rw [Bool.eq_iff_iff, List.contains_iff_mem, List.contains_iff_mem, List.mem_map]
  constructor
  · rintro ⟨j, h, e⟩
    rw [← show j = i by omega]
    exact h
  · exact fun h => ⟨i, h, rfl⟩
theorem o_inN {ι : Type} {neg : Bool} {i : Nat} {l : List ι} {f : ι → Nat} : inG neg (.int (i : Nat)) (.lst (l.map fun x => .int (f x : Nat))) = some (.bl (neg ^^ (l.map f).contains i)) := by
  rw [show (l.map fun x => D.int (f x : Nat)) = ((l.map f).map fun i : Nat => (i : Int)).map D.int by simp [Function.comp_def], o_inL, con_ints]
theorem asc_def (ns : List Nat) : (List.range (ns.length - 1)).all (fun i => decide (((ns.getD i 0 : Nat) : Int) < ((ns.getD (i + 1) 0 : Nat) : Int))) = ascB ns := by
  unfold ascB
  congr 1
  funext i
  rw [Bool.eq_iff_iff]
  simp
theorem leftB_eq {e : Int} {l : List Br} {is : List Nat} : (l.zipIdx.any fun x => longB e x.1 && !is.contains x.2) = leftB e l is := rfl
set_option maxHeartbeats 4000000 in
theorem v_is_pairing {l m : List Br} {e : Int} {ps : List (Nat × Nat)} {b : Bag} (h : Asked l m e) (hp : ∀ p ∈ ps, p.1 < l.length ∧ p.2 < m.length) (hl : ps.length ≤ 1000) : fm_is_pairing [encL l, encL m, .int e, .tup (ps.map encN)] b = .ok (.bl (goodP l m e ps)) b := by
  have hl2 := h.l2
  have hm2 := h.m2
  have c0 : fm_check_asked [encL l, encL m, .int e] b = .ok .non b := v_check_asked h.l1 h.l2 h.m1 h.m2 ⟨h.e0, h.e1⟩
  have z1 : ps.length ≤ 100000 := by omega
  have z2 : (ps.length : Int) ≤ 1000000 := by omega
  have z3 : ps.length ≤ 100001 := by omega
  have z4 : l.length ≤ 100000 := by omega
  have z5 : m.length ≤ 100000 := by omega
  have z6 : l.length ≤ 100001 := by omega
  have z7 : m.length ≤ 100001 := by omega
  simp [fm_is_pairing, e_fnM, ms_is_pairing, c0, z1]
  rw [lc_all ps encN (fun _ => .bl true)]
  rotate_left
  · exact fun p hq => ⟨_, rfl, by simp [encL, v_is_number_pair (pl_encN p), pair_encN (hp p hq)]⟩
  simp [z1, z2, z3]
  rw [lc_all (List.range (ps.length - 1)) (fun i => D.int (1 + (i : Nat))) (fun i => .bl (decide ((((ps.map (·.1)).getD i 0 : Nat) : Int) < (((ps.map (·.1)).getD (i + 1) 0 : Nat) : Int))))]
  rotate_left
  · intro i hi
    have hi := List.mem_range.mp hi
    have h1 : i < ps.length := by omega
    have h2 : i + 1 < ps.length := by omega
    refine ⟨_, rfl, ?_⟩
    have e1 : (1 + (i : Int) - 1) = ((i : Nat) : Int) := by omega
    have e2 : (1 + (i : Int)) = ((i + 1 : Nat) : Int) := by omega
    simp only [e_m2, e_mVar0, e_mVarS, List.set_cons_succ, List.set_cons_zero, R.bind_ok, e_mC, o_sub, R.opt_some, o_ixT, e1]
    rw [e2]
    rw [at_map h1, at_map h2]
    simp [encN, h1, h2]
  simp only [R.so_ok, o_allM, R.opt_some, opt_bl]
  rw [show (ps.length - 1) = ((ps.map (·.1)).length - 1) by simp, asc_def]
  unfold goodP
  cases ha : ascB (ps.map (·.1)) with
  | false => simp
  | true =>
    obtain ⟨vs', d1, d2⟩ := dc_go (g := gTp (gCn (gNm 8) (gCn (gNm 9) gNl))) (kl := mVar 9) (el := mVar 8) (env := [Sl.va (encL l), Sl.va (encL m), Sl.va (D.int e), Sl.va (D.tup (List.map encN ps)), Sl.un, Sl.un, Sl.un, Sl.un, Sl.un, Sl.un, Sl.un]) (b := b) ps encN (fun p => kOf p.2) (fun p => .int p.1) (fun p _ => ⟨_, .int p.2, rfl, rfl, rfl, rfl⟩) [] [] rfl
    have d3 : decide (((ps.map fun p => kOf p.2).foldl putKs []).length < ps.length) = !decide (ps.map (·.2)).Nodup := by
      have := put_lt (ss := ps.map (·.2))
      rwa [List.map_map, List.length_map] at this
    have d4 : ∀ i, decide (kOf i ∈ (ps.map fun p => kOf p.2).foldl putKs []) = (ps.map (·.2)).contains i := by
      intro i
      have := put_in (ss := ps.map (·.2)) (i := i)
      rwa [List.map_map] at this
    generalize (ps.map fun p => kOf p.2).foldl putKs [] = ks at d1 d2 d3 d4
    cases hn : decide (ps.map (·.2)).Nodup with
    | false =>
      rw [hn] at d3
      have d3 : ks.length < ps.length := by simpa using d3
      simp [z1, d1, d3]
    | true =>
      rw [hn] at d3
      have d3 : ¬ ks.length < ps.length := by simpa using d3
      simp [z1, d1, d3]
      rw [lc_all ps encN (fun p => .bl (fitB e (atB l p.1) (atB m p.2)))]
      rotate_left
      · exact fun p hq => ⟨_, rfl, by simp [encL, atB_get (hp p hq).1, atB_get (hp p hq).2, v_do_fit]⟩
      simp only [R.so_ok, o_allM, R.opt_some, opt_bl]
      cases hf : (ps.all fun p => fitB e (atB l p.1) (atB m p.2)) with
      | false => simp
      | true =>
        simp [z1]
        rw [lc_all ps encN (fun p => .int p.1)]
        rotate_left
        · exact fun p hq => ⟨_, rfl, rfl⟩
        simp [encL, enum_map, z4, z6]
        rw [lc_all l.zipIdx (fun x => D.tup [.int x.2, encB x.1]) (fun x => .bl (longB e x.1 && !(ps.map (·.1)).contains x.2))]
        rotate_left
        · refine fun x hx => ⟨_, rfl, ?_⟩
          simp only [e_mAnd, e_mCall0, e_mCons, e_mNil, e_mVar0, e_mVarS, R.bind_ok, List.set_cons_succ, List.set_cons_zero, v_is_long, R.nox_ok, e_andK, e_m2, R.opt_some, o_inN, Bool.true_bne, Bool.true_xor]
          cases longB e x.1 <;> simp
        simp only [R.so_ok, o_anyM, R.opt_some, opt_bl, leftB_eq]
        cases hg : leftB e l (ps.map (·.1)) with
        | true => simp
        | false =>
          simp [enum_map, z5, z7]
          rw [lc_all m.zipIdx (fun x => D.tup [.int x.2, encB x.1]) (fun x => .bl (longB e x.1 && !(ps.map (·.2)).contains x.2))]
          rotate_left
          · refine fun x hx => ⟨_, rfl, ?_⟩
            simp only [e_mAnd, e_mCall0, e_mCons, e_mNil, e_mVar0, e_mVarS, R.bind_ok, List.set_cons_succ, List.set_cons_zero, v_is_long, R.nox_ok, e_andK, e_m2, R.opt_some, o_inD d2, d4, Bool.true_bne, Bool.true_xor]
            cases longB e x.1 <;> simp
          simp only [R.so_ok, R.bind_ok, o_anyM, R.opt_some, opt_bl, leftB_eq, e_notK, fin_rt]

theorem v_is_pairing_no {l m : List Br} {e : Int} {d : D} {b : Bag} (h : Asked l m e) (hd : Pl d) (ht : isTup d = false) : fm_is_pairing [encL l, encL m, .int e, d] b = .ok (.bl false) b := by
  have c0 : fm_check_asked [encL l, encL m, .int e] b = .ok .non b := v_check_asked h.l1 h.l2 h.m1 h.m2 ⟨h.e0, h.e1⟩
  simp [fm_is_pairing, e_fnM, ms_is_pairing, c0, isi_tuple hd, ht]
theorem v_is_pairing_bad {l m : List Br} {e : Int} {ds : List D} {b : Bag} (h : Asked l m e) (hd : ∀ d ∈ ds, Pl d) (hl : ds.length ≤ 1000) (ha : ds.all (pairB l.length m.length) = false) : fm_is_pairing [encL l, encL m, .int e, .tup ds] b = .ok (.bl false) b := by
  have c0 : fm_check_asked [encL l, encL m, .int e] b = .ok .non b := v_check_asked h.l1 h.l2 h.m1 h.m2 ⟨h.e0, h.e1⟩
  have z1 : ds.length ≤ 100000 := by omega
  simp [fm_is_pairing, e_fnM, ms_is_pairing, c0, z1]
  rw [lc_all' (fun d => .bl (pairB l.length m.length d))]
  rotate_left
  · exact fun d hq => ⟨_, rfl, by simp [encL, v_is_number_pair (hd d hq)]⟩
  simp only [R.so_ok, o_allM, R.opt_some, opt_bl, ha]
  simp
/-- the law's own walk over pairs -/
def chkP (l m : List Br) (e : Int) : Int → List Nat → List (Nat × Nat) → Bool
  | _, _, [] => true
  | a, us, p :: ps => decide (a < (p.1 : Int)) && !us.contains p.2 && fitB e (atB l p.1) (atB m p.2) && chkP l m e p.1 (us ++ [p.2]) ps
def goodL (l m : List Br) (e : Int) (ps : List (Nat × Nat)) : Bool :=
  chkP l m e (-1) [] ps && !leftB e l (ps.map (·.1)) && !leftB e m (ps.map (·.2))
def stepP : MS := (sSeq (sIf (mOrT (mNotT (mT (m1 (isiG "tuple") (mVar 6)))) (mOrT (mT (m2 neG (mB lenG (mCons (mVar 6) mNil)) (mC (.int 2)))) (mNotT (mT (mCall0 fm__law_is_number (mCons (m2 ixG (mVar 6) (mC (.int 0))) (mCons (mB lenG (mCons (mVar 0) mNil)) mNil))))))) (sRet (mC (.bl false))) sSkip) (sSeq (sIf (mOrT (mNotT (mT (mCall0 fm__law_is_number (mCons (m2 ixG (mVar 6) (mC (.int 1))) (mCons (mB lenG (mCons (mVar 1) mNil)) mNil))))) (mOrT (mT (m2 leG (m2 ixG (mVar 6) (mC (.int 0))) (mVar 4))) (mT (m2 (inG false) (m2 ixG (mVar 6) (mC (.int 1))) (mOwn 5))))) (sRet (mC (.bl false))) sSkip) (sSeq (sIf (mNotT (mT (mCall0 fm__law_fits (mCons (m2 ixG (mVar 0) (m2 ixG (mVar 6) (mC (.int 0)))) (mCons (m2 ixG (mVar 1) (m2 ixG (mVar 6) (mC (.int 1)))) (mCons (mVar 2) mNil)))))) (sRet (mC (.bl false))) sSkip) (sSeq (sAsg (gNm 4) (m2 ixG (mVar 6) (mC (.int 0)))) (sMeth 5 (mCons (m2 ixG (mVar 6) (mC (.int 1))) mNil) appG)))))
theorem o_neLen {n : Nat} : neG (.int (n : Nat)) (.int 2) = some (.bl (!decide ((n : Int) = 2))) := o_neI
theorem step_bad {l m : List Br} {e a : Int} {us : List Nat} {d x : D} {env : Ev} {b : Bag} (hd : Pl d) (h : pairB l.length m.length d = false) :
    stepP (.va (encL l) :: .va (encL m) :: .va (.int e) :: .va x :: .va (.int a) :: .ol (us.map fun i : Nat => .int i) :: .va d :: env) b = .rt (.bl false) b := by
  cases hd with
  | tup hds =>
    rename_i ds
    match ds, hds with
    | [], _ => simp [stepP]
    | [x], _ => simp [stepP]
    | [x, y], h2 =>
      have hx := h2 x (by simp)
      have hy := h2 y (by simp)
      have h : (withB x 0 (l.length - 1) && withB y 0 (m.length - 1)) = false := h
      simp [stepP, encL, v_law_is_number hx]
      cases h1 : withB x 0 (l.length - 1) with
      | false => simp
      | true =>
        rw [h1] at h
        have h : withB y 0 (m.length - 1) = false := by simpa using h
        simp [v_law_is_number hy, h]
    | x :: y :: z :: r, _ =>
      have : ¬ ((r.length : Int) + 1 + 1 + 1 = 2) := by omega
      simp [stepP, this]
  | _ => simp [stepP, isi_tuple (.dK _ _), isTup]
theorem step_ok {l m : List Br} {e a : Int} {us : List Nat} {p : Nat × Nat} {x : D} {env : Ev} {b : Bag} (h : p.1 < l.length ∧ p.2 < m.length) (hu : us.length < 100000) :
    stepP (.va (encL l) :: .va (encL m) :: .va (.int e) :: .va x :: .va (.int a) :: .ol (us.map fun i : Nat => .int i) :: .va (encN p) :: env) b =
      if (decide (a < (p.1 : Int)) && !us.contains p.2 && fitB e (atB l p.1) (atB m p.2)) = true then .nx (.va (encL l) :: .va (encL m) :: .va (.int e) :: .va x :: .va (.int p.1) :: .ol ((us ++ [p.2]).map fun i : Nat => .int i) :: .va (encN p) :: env) b else .rt (.bl false) b := by
  have w1 : withB (.int p.1) 0 ((l.length : Int) - 1) = true := by simp [withB]; omega
  have w2 : withB (.int p.2) 0 ((m.length : Int) - 1) = true := by simp [withB]; omega
  have hi : ∀ us : List Nat, inG false (.int (p.2 : Nat)) (.lst (us.map fun i : Nat => .int i)) = some (.bl (us.contains p.2)) := fun us => by
    have := o_inN (neg := false) (i := p.2) (l := us) (f := fun i => i)
    rwa [List.map_id', Bool.false_xor] at this
  simp [stepP, encN, encL, v_law_is_number (.int _), w1, w2, hi, atB_get h.1, atB_get h.2, v_law_fits, hu]
  by_cases h1 : (p.1 : Int) ≤ a
  · have : ¬ a < (p.1 : Int) := by omega
    simp [h1, this]
  · have h2 : a < (p.1 : Int) := by omega
    by_cases h3 : p.2 ∈ us
    · simp [h1, h2, h3]
    · cases h4 : fitB e (atB l p.1) (atB m p.2) <;> simp [h1, h2, h3]

theorem loop_ok {l m : List Br} {e : Int} {x : D} {env : Ev} {b : Bag} : ∀ (ps : List (Nat × Nat)) (a : Int) (us : List Nat) (s : Sl), (∀ p ∈ ps, p.1 < l.length ∧ p.2 < m.length) → us.length + ps.length < 100000 → ∃ a' s',
    forL (gNm 6) stepP (ps.map encN) (.va (encL l) :: .va (encL m) :: .va (.int e) :: .va x :: .va (.int a) :: .ol (us.map fun i : Nat => .int i) :: s :: env) b =
      if chkP l m e a us ps = true then .nx (.va (encL l) :: .va (encL m) :: .va (.int e) :: .va x :: .va (.int a') :: .ol ((us ++ ps.map (·.2)).map fun i : Nat => .int i) :: s' :: env) b else .rt (.bl false) b
  | [], a, us, s, _, _ => ⟨a, s, by simp [chkP]⟩
  | p :: ps, a, us, s, hp, hl => by
    have h0 := hp p List.mem_cons_self
    simp only [List.length_cons] at hl
    obtain ⟨a', s', ih⟩ := loop_ok (b := b) (e := e) (x := x) (env := env) ps p.1 (us ++ [p.2]) (.va (encN p)) (fun q hq => hp q (List.mem_cons_of_mem _ hq)) (by simp; omega)
    refine ⟨a', s', ?_⟩
    rw [List.map_cons]
    unfold forL
    simp only [e_gNm, List.set_cons_succ, List.set_cons_zero]
    rw [step_ok h0 (by omega)]
    unfold chkP
    cases hc : (decide (a < (p.1 : Int)) && !us.contains p.2 && fitB e (atB l p.1) (atB m p.2)) with
    | true =>
      simp only [if_true, Bool.true_and]
      rw [ih]
      simp
    | false => simp
theorem loop_bad {l m : List Br} {e : Int} {x : D} {env : Ev} {b : Bag} : ∀ (ds : List D) (a : Int) (us : List Nat) (s : Sl), (∀ d ∈ ds, Pl d) → ds.all (pairB l.length m.length) = false → us.length + ds.length < 100000 →
    forL (gNm 6) stepP ds (.va (encL l) :: .va (encL m) :: .va (.int e) :: .va x :: .va (.int a) :: .ol (us.map fun i : Nat => .int i) :: s :: env) b = .rt (.bl false) b
  | [], a, us, s, _, h, _ => by simp at h
  | d :: ds, a, us, s, hd, h, hl => by
    simp only [List.length_cons] at hl
    unfold forL
    simp only [e_gNm, List.set_cons_succ, List.set_cons_zero]
    cases hb : pairB l.length m.length d with
    | false => rw [step_bad (hd d List.mem_cons_self) hb]
    | true =>
      obtain ⟨p, rfl, h0⟩ := pair_of hb
      rw [step_ok h0 (by omega)]
      rw [List.all_cons, hb, Bool.true_and] at h
      cases hc : (decide (a < (p.1 : Int)) && !us.contains p.2 && fitB e (atB l p.1) (atB m p.2)) with
      | false => simp
      | true =>
        simp only [if_true]
        exact loop_bad ds p.1 (us ++ [p.2]) _ (fun q hq => hd q (List.mem_cons_of_mem _ hq)) h (by simp; omega)
theorem v_law_is_pairing_no {l m : List Br} {e : Int} {d : D} {b : Bag} (hd : Pl d) (ht : isTup d = false) : fm__law_is_pairing [encL l, encL m, .int e, d] b = .ok (.bl false) b := by
  simp [fm__law_is_pairing, e_fnM, ms__law_is_pairing, isi_tuple hd, ht]
theorem v_law_is_pairing_bad {l m : List Br} {e : Int} {ds : List D} {b : Bag} (hd : ∀ d ∈ ds, Pl d) (hl : ds.length ≤ 1000) (ha : ds.all (pairB l.length m.length) = false) : fm__law_is_pairing [encL l, encL m, .int e, .tup ds] b = .ok (.bl false) b := by
  have := loop_bad (l := l) (m := m) (e := e) (x := .tup ds) (env := [.un, .un, .un]) (b := b) ds (-1) [] .un hd ha (by simp; omega)
  unfold stepP at this
  rw [List.map_nil] at this
  simp [fm__law_is_pairing, e_fnM, ms__law_is_pairing, this]
theorem leftB_fil {e : Int} {l : List Br} {is : List Nat} : (l.zipIdx.filter fun x => !is.contains x.2).any (fun x => longB e x.1) = leftB e l is := by
  rw [List.any_filter]
  unfold leftB
  congr 1
  funext x
  rw [Bool.and_comm]
set_option maxHeartbeats 1000000 in
theorem v_law_is_pairing {l m : List Br} {e : Int} {ps : List (Nat × Nat)} {b : Bag} (h : Asked l m e) (hp : ∀ p ∈ ps, p.1 < l.length ∧ p.2 < m.length) (hl : ps.length ≤ 1000) : fm__law_is_pairing [encL l, encL m, .int e, .tup (ps.map encN)] b = .ok (.bl (goodL l m e ps)) b := by
  have hl2 := h.l2
  have hm2 := h.m2
  have z1 : ps.length ≤ 100000 := by omega
  have z4 : l.length ≤ 100000 := by omega
  have z5 : m.length ≤ 100000 := by omega
  have z6 : l.length ≤ 100001 := by omega
  have z7 : m.length ≤ 100001 := by omega
  obtain ⟨a', s', this⟩ := loop_ok (l := l) (m := m) (e := e) (x := .tup (ps.map encN)) (env := [.un, .un, .un]) (b := b) ps (-1) [] .un hp (by simp; omega)
  unfold stepP at this
  rw [List.map_nil] at this
  simp [fm__law_is_pairing, e_fnM, ms__law_is_pairing, this]
  unfold goodL
  cases hc : chkP l m e (-1) [] ps with
  | false => simp
  | true =>
    simp [z1]
    rw [lc_all ps encN (fun p => .int p.1)]
    rotate_left
    · exact fun p hq => ⟨_, rfl, by simp [encN]⟩
    simp [encL, enum_map, z4, z6]
    rw [lc_pure l.zipIdx (fun x => D.tup [.int x.2, encB x.1]) (fun x => !(ps.map (·.1)).contains x.2) (fun x => .bl (longB e x.1))]
    rotate_left
    · refine fun x hx => ⟨_, rfl, ?_, fun _ => ?_⟩
      · simp only [e_mT, e_m2, e_mVar0, e_mVarS, R.bind_ok, List.set_cons_succ, List.set_cons_zero, R.opt_some, o_inN, opt_bl, Bool.true_xor]
      · simp [v_law_is_long]
    simp only [R.so_ok, o_anyM, R.opt_some, opt_bl, leftB_fil]
    cases hg : leftB e l (ps.map (·.1)) with
    | true => simp
    | false =>
      simp [enum_map, z5, z7]
      rw [lc_pure m.zipIdx (fun x => D.tup [.int x.2, encB x.1]) (fun x => !(ps.map (·.2)).contains x.2) (fun x => .bl (longB e x.1))]
      rotate_left
      · refine fun x hx => ⟨_, rfl, ?_, fun _ => ?_⟩
        · simp only [e_mT, e_m2, e_mVar0, e_mVarS, e_mOwnS, e_mOwn0, Function.comp_def, R.bind_ok, List.set_cons_succ, List.set_cons_zero, R.opt_some, o_inN, opt_bl, Bool.true_xor]
        · simp [v_law_is_long]
      simp only [R.so_ok, R.bind_ok, o_anyM, R.opt_some, opt_bl, leftB_fil, e_notK, fin_rt]
/-! both judge alike -/
theorem chk_eq {l m : List Br} {e : Int} : ∀ (ps : List (Nat × Nat)) (a : Int) (us : List Nat), chkP l m e a us ps =
    (((match ps with | [] => true | p :: _ => decide (a < (p.1 : Int))) && ascB (ps.map (·.1))) && decide ((ps.map (·.2)).Nodup ∧ ∀ p ∈ ps, p.2 ∉ us) && ps.all (fun p => fitB e (atB l p.1) (atB m p.2)))
  | [], a, us => by simp [chkP, ascB]
  | p :: ps, a, us => by
    unfold chkP
    rw [chk_eq ps]
    have hasc : ascB ((p :: ps).map (·.1)) = ((match ps with | [] => true | q :: _ => decide ((p.1 : Int) < (q.1 : Int))) && ascB (ps.map (·.1))) := by
      cases ps with
      | nil => simp [ascB]
      | cons q ps =>
        rw [List.map_cons, List.map_cons, asc_cons]
        congr 1
        rw [Bool.eq_iff_iff]
        simp
    rw [hasc]
    have hcon : (us.contains p.2 = false) ↔ p.2 ∉ us := by rw [← Bool.not_eq_true, List.contains_iff_mem]
    rw [Bool.eq_iff_iff]
    simp only [Bool.and_eq_true, decide_eq_true_iff, Bool.not_eq_true', List.all_cons, List.map_cons, List.nodup_cons, List.mem_map, List.mem_cons, hcon, List.mem_append, List.not_mem_nil, or_false, not_or, forall_eq_or_imp, not_exists, not_and]
    constructor
    · rintro ⟨⟨⟨h1, h2⟩, h3⟩, ⟨⟨h4, h5⟩, h6, h7⟩, h8⟩
      exact ⟨⟨⟨h1, h4, h5⟩, ⟨fun x hx => (h7 x hx).2, h6⟩, h2, fun x hx => (h7 x hx).1⟩, h3, h8⟩
    · rintro ⟨⟨⟨h1, h4, h5⟩, ⟨h7, h6⟩, h2, h9⟩, h3, h8⟩
      exact ⟨⟨⟨h1, h2⟩, h3⟩, ⟨⟨h4, h5⟩, h6, fun x hx => ⟨h9 x hx, h7 x hx⟩⟩, h8⟩
theorem good_eq {l m : List Br} {e : Int} {ps : List (Nat × Nat)} : goodP l m e ps = goodL l m e ps := by
  unfold goodP goodL
  rw [chk_eq]
  congr 2
  have : (match ps with | [] => true | p :: _ => decide ((-1 : Int) < (p.1 : Int))) = true := by
    cases ps with
    | nil => rfl
    | cons p ps => simp; omega
  rw [this]
  simp
/-- both tell the same of any thing -/
theorem pairing_both {l m : List Br} {e : Int} {d : D} (h : Asked l m e) (hd : Pl d) (hl : ∀ ds, d = .tup ds → ds.length ≤ 1000) : ∃ k : Bool, ∀ b, fm_is_pairing [encL l, encL m, .int e, d] b = .ok (.bl k) b ∧ fm__law_is_pairing [encL l, encL m, .int e, d] b = .ok (.bl k) b := by
  cases ht : isTup d with
  | false => exact ⟨false, fun b => ⟨v_is_pairing_no h hd ht, v_law_is_pairing_no hd ht⟩⟩
  | true =>
    obtain ⟨ds, rfl, hds⟩ := of_tup hd ht
    have hl := hl ds rfl
    cases ha : ds.all (pairB l.length m.length) with
    | false => exact ⟨false, fun b => ⟨v_is_pairing_bad h hds hl ha, v_law_is_pairing_bad hds hl ha⟩⟩
    | true =>
      obtain ⟨ps, rfl, hp⟩ := pairs_of ha
      rw [List.length_map] at hl
      exact ⟨goodP l m e ps, fun b => ⟨v_is_pairing h hp hl, by rw [good_eq]; exact v_law_is_pairing h hp hl⟩⟩

/-! ### bans -/
abbrev encI (i : Nat) : D := .int (i : Nat)
def numB (n : Nat) (d : D) : Bool := withB d 0 ((n : Int) - 1)
theorem num_of {n : Nat} {d : D} (h : numB n d = true) : ∃ i : Nat, d = encI i ∧ i < n := by
  unfold numB withB at h
  split at h
  · rename_i i
    simp at h
    exact ⟨i.toNat, by show _ = D.int (i.toNat : Nat); rw [Int.toNat_of_nonneg h.1], by omega⟩
  · cases h
theorem nums_of {n : Nat} {ds : List D} (h : ds.all (numB n) = true) : ∃ ns : List Nat, ds = ns.map encI ∧ ∀ i ∈ ns, i < n := by
  induction ds with
  | nil => exact ⟨[], rfl, by simp⟩
  | cons d ds ih =>
    rw [List.all_cons, Bool.and_eq_true] at h
    obtain ⟨i, rfl, hi⟩ := num_of h.1
    obtain ⟨ns, rfl, hns⟩ := ih h.2
    refine ⟨i :: ns, rfl, fun j hj => ?_⟩
    rcases List.mem_cons.mp hj with rfl | hj
    · exact hi
    · exact hns j hj
theorem num_enc {n i : Nat} (h : i < n) : numB n (encI i) = true := by
  unfold numB withB
  simp
  omega
theorem v_is_lot_no {n : Nat} {d : D} {b : Bag} (hd : Pl d) (ht : isTup d = false) : fm_is_lot [d, .int n] b = .ok (.bl false) b := by
  simp [fm_is_lot, e_fnM, ms_is_lot, isi_tuple hd, ht]
theorem v_is_lot_bad {n : Nat} {ds : List D} {b : Bag} (hd : ∀ d ∈ ds, Pl d) (hl : ds.length ≤ 1000) (ha : ds.all (numB n) = false) : fm_is_lot [.tup ds, .int n] b = .ok (.bl false) b := by
  have z1 : ds.length ≤ 100000 := by omega
  simp [fm_is_lot, e_fnM, ms_is_lot, z1]
  rw [lc_all' (fun d => .bl (numB n d))]
  rotate_left
  · exact fun d hq => ⟨_, rfl, by simp [v_is_number (hd d hq), numB]⟩
  simp only [R.so_ok, o_allM, R.opt_some, opt_bl, ha]
  simp
theorem v_is_lot {n : Nat} {ns : List Nat} {b : Bag} (hp : ∀ i ∈ ns, i < n) (hl : ns.length ≤ 1000) : fm_is_lot [.tup (ns.map encI), .int n] b = .ok (.bl (ascB ns)) b := by
  have z1 : ns.length ≤ 100000 := by omega
  have z2 : (ns.length : Int) ≤ 1000000 := by omega
  have z3 : ns.length ≤ 100001 := by omega
  simp [fm_is_lot, e_fnM, ms_is_lot, z1]
  rw [lc_all ns encI (fun _ => .bl true)]
  rotate_left
  · exact fun i hq => ⟨_, rfl, by
      have := num_enc (hp i hq)
      unfold numB at this
      simp [v_is_number (.int _), this]⟩
  simp [z1, z2, z3]
  rw [lc_all (List.range (ns.length - 1)) (fun i => D.int (1 + (i : Nat))) (fun i => .bl (decide (((ns.getD i 0 : Nat) : Int) < ((ns.getD (i + 1) 0 : Nat) : Int))))]
  rotate_left
  · intro i hi
    have hi := List.mem_range.mp hi
    have h1 : i < ns.length := by omega
    have h2 : i + 1 < ns.length := by omega
    refine ⟨_, rfl, ?_⟩
    have e1 : (1 + (i : Int) - 1) = ((i : Nat) : Int) := by omega
    have e2 : (1 + (i : Int)) = ((i + 1 : Nat) : Int) := by omega
    simp only [e_m2, e_mVar0, e_mVarS, List.set_cons_succ, List.set_cons_zero, R.bind_ok, e_mC, o_sub, R.opt_some, o_ixT, e1]
    rw [e2]
    rw [at_map h1, at_map h2]
    simp [h1, h2]
  simp only [R.bind_ok, bind_so, R.so_ok, o_allM, R.opt_some, opt_bl, asc_def, fin_rt]
def goodB (mine others : List Br) (e : Int) (ns : List Nat) : Bool :=
  ascB ns && ns.all (fun i => longB e (atB mine i)) && decide ((others.filter fun y => ns.any fun i => fitB e (atB mine i) y).length < ns.length)
theorem con01 {i : Int} : inG true (.int i) (.tup [.int 0, .int 1]) = some (.bl (!(decide (i = 0) || decide (i = 1)))) := by
  have := o_inT (neg := true) (p := i) (ns := [0, 1])
  rw [Bool.true_xor] at this
  rw [show [D.int 0, D.int 1] = [0, 1].map D.int from rfl, this]
  simp
def sideB (d : D) : Bool := match d with
  | .int i => decide (i = 0) || decide (i = 1)
  | _ => false
set_option maxHeartbeats 1000000 in
theorem v_is_ban_no {l m : List Br} {e : Int} {d : D} {b : Bag} (h : Asked l m e) (hd : Pl d) (hn : ∀ x y, d = .tup [x, y] → sideB x = false) : fm_is_ban [encL l, encL m, .int e, d] b = .ok (.bl false) b := by
  have c0 : fm_check_asked [encL l, encL m, .int e] b = .ok .non b := v_check_asked h.l1 h.l2 h.m1 h.m2 ⟨h.e0, h.e1⟩
  cases hd with
  | tup hds =>
    rename_i ds
    match ds, hds with
    | [], _ => simp [fm_is_ban, e_fnM, ms_is_ban, c0]
    | [x], _ => simp [fm_is_ban, e_fnM, ms_is_ban, c0]
    | [x, y], h2 =>
      have hx := h2 x (by simp)
      have hs := hn x y rfl
      simp [fm_is_ban, e_fnM, ms_is_ban, c0, v_is_integer hx]
      cases hx <;> simp [intB]
      simp [sideB] at hs
      simp [con01, hs]
    | x :: y :: z :: r, _ =>
      have : ¬ ((r.length : Int) + 1 + 1 + 1 = 2) := by omega
      simp [fm_is_ban, e_fnM, ms_is_ban, c0, this]
  | _ => simp [fm_is_ban, e_fnM, ms_is_ban, c0, isi_tuple (.dK _ _), isTup]
/-- the bars of the side, and the others -/
def sides (l m : List Br) (i : Int) : List Br × List Br := if i = 0 then (l, m) else (m, l)
def tailB : MS := (sSeq (sIf (mOrT (mNotT (mT (mCall0 fm_is_lot (mCons (m2 ixG (mVar 3) (mC (.int 1))) (mCons (mB lenG (mCons (mVar 4) mNil)) mNil))))) (mNotT (mT (mB allG (mCons (mLc (mSeq (m2 ixG (mVar 3) (mC (.int 1)))) (gNm 6) mYes (mCall0 fm_is_long (mCons (m2 ixG (mVar 4) (mVar 6)) (mCons (mVar 2) mNil))) [6]) mNil))))) (sRet (mC (.bl false))) sSkip) (sRet (m2 ltG (mB lenG (mCons (mLc (mSeq (mVar 5)) (gNm 7) (mT (mB anyG (mCons (mLc (mSeq (m2 ixG (mVar 3) (mC (.int 1)))) (gNm 6) mYes (mCall0 fm_do_fit (mCons (m2 ixG (mVar 4) (mVar 6)) (mCons (mVar 7) (mCons (mVar 2) mNil)))) [6]) mNil))) (mVar 7) [7]) mNil)) (mB lenG (mCons (m2 ixG (mVar 3) (mC (.int 1))) mNil)))))
theorem tail_no {e : Int} {l m : List Br} {x y d z : D} {b : Bag} (hd : Pl d) (ht : isTup d = false) :
    tailB [.va x, .va y, .va (.int e), .va (.tup [z, d]), .va (encL l), .va (encL m), .un, .un] b = .rt (.bl false) b := by
  simp [tailB, encL, v_is_lot_no hd ht]
theorem tail_bad {e : Int} {l m : List Br} {x y z : D} {ds : List D} {b : Bag} (hd : ∀ d ∈ ds, Pl d) (hl : ds.length ≤ 1000) (ha : ds.all (numB l.length) = false) :
    tailB [.va x, .va y, .va (.int e), .va (.tup [z, .tup ds]), .va (encL l), .va (encL m), .un, .un] b = .rt (.bl false) b := by
  simp [tailB, encL, v_is_lot_bad hd hl ha]
set_option maxHeartbeats 1000000 in
theorem tail_ok {e : Int} {l m : List Br} {x y z : D} {ns : List Nat} {b : Bag} (hp : ∀ i ∈ ns, i < l.length) (hl : ns.length ≤ 1000) (hm : m.length ≤ 1000) :
    tailB [.va x, .va y, .va (.int e), .va (.tup [z, .tup (ns.map encI)]), .va (encL l), .va (encL m), .un, .un] b = .rt (.bl (goodB l m e ns)) b := by
  have z1 : ns.length ≤ 100000 := by omega
  have z2 : m.length ≤ 100000 := by omega
  unfold goodB
  simp [tailB, encL, v_is_lot hp hl, z1]
  cases ha : ascB ns with
  | false => simp
  | true =>
    simp
    rw [lc_all ns encI (fun i => .bl (longB e (atB l i)))]
    rotate_left
    · exact fun i hq => ⟨_, rfl, by simp [atB_get (hp i hq), v_is_long]⟩
    simp only [R.so_ok, o_allM, R.opt_some, opt_bl]
    cases hf : (ns.all fun i => longB e (atB l i)) with
    | false => simp
    | true =>
      simp [z1, z2]
      rw [lc_pure m encB (fun y => ns.any fun i => fitB e (atB l i) y) encB]
      rotate_left
      · refine fun w hw => ⟨_, rfl, ?_, fun _ => rfl⟩
        simp [z1]
        rw [lc_all ns encI (fun i => .bl (fitB e (atB l i) w))]
        rotate_left
        · exact fun i hq => ⟨_, rfl, by simp [atB_get (hp i hq), v_do_fit]⟩
        simp only [R.bind_ok, o_anyM, R.opt_some, opt_bl]
      simp
theorem v_is_ban_in {l m : List Br} {e i : Int} {d : D} {b : Bag} (h : Asked l m e) (hi : i = 0 ∨ i = 1) :
    fm_is_ban [encL l, encL m, .int e, .tup [.int i, d]] b = finK (tailB [.va (encL l), .va (encL m), .va (.int e), .va (.tup [.int i, d]), .va (encL (if i = 0 then l else m)), .va (encL (if i = 0 then m else l)), .un, .un] b) := by
  have c0 : fm_check_asked [encL l, encL m, .int e] b = .ok .non b := v_check_asked h.l1 h.l2 h.m1 h.m2 ⟨h.e0, h.e1⟩
  rcases hi with rfl | rfl
  · simp [fm_is_ban, e_fnM, ms_is_ban, c0, v_is_integer (.int _), con01, tailB]
  · simp [fm_is_ban, e_fnM, ms_is_ban, c0, v_is_integer (.int _), con01, tailB]
/-! the law's own -/
def chkB (l : List Br) (e : Int) : Int → List Nat → Bool
  | _, [] => true
  | a, i :: ns => decide (a < (i : Int)) && longB e (atB l i) && chkB l e i ns
def stepB : MS := (sSeq (sIf (mOrT (mNotT (mT (mCall0 fm__law_is_number (mCons (mVar 8) (mCons (mB lenG (mCons (mVar 4) mNil)) mNil))))) (mOrT (mT (m2 leG (mVar 8) (mVar 6))) (mNotT (mT (mCall0 fm__law_is_long (mCons (m2 ixG (mVar 4) (mVar 8)) (mCons (mVar 2) mNil))))))) (sRet (mC (.bl false))) sSkip) (sSeq (sAsg (gNm 6) (mVar 8)) (sMeth 7 (mCons (m2 ixG (mVar 4) (mVar 8)) mNil) appG)))
theorem stepB_bad {e a : Int} {l : List Br} {us : List D} {x y z q d : D} {env : Ev} {b : Bag} (hd : Pl d) (h : numB l.length d = false) :
    stepB (.va x :: .va y :: .va (.int e) :: .va z :: .va (encL l) :: .va q :: .va (.int a) :: .ol us :: .va d :: env) b = .rt (.bl false) b := by
  unfold numB at h
  simp [stepB, encL, v_law_is_number hd, h]
theorem stepB_ok {e a : Int} {l : List Br} {us : List Br} {x y z q : D} {i : Nat} {env : Ev} {b : Bag} (h : i < l.length) (hu : us.length < 100000) :
    stepB (.va x :: .va y :: .va (.int e) :: .va z :: .va (encL l) :: .va q :: .va (.int a) :: .ol (us.map encB) :: .va (encI i) :: env) b =
      if (decide (a < (i : Int)) && longB e (atB l i)) = true then .nx (.va x :: .va y :: .va (.int e) :: .va z :: .va (encL l) :: .va q :: .va (.int i) :: .ol ((us ++ [atB l i]).map encB) :: .va (encI i) :: env) b else .rt (.bl false) b := by
  have hn := num_enc h
  unfold numB at hn
  simp [stepB, encL, v_law_is_number (.int _), hn, atB_get h, v_law_is_long, hu]
  by_cases h1 : (i : Int) ≤ a
  · have : ¬ a < (i : Int) := by omega
    simp [h1, this]
  · have h2 : a < (i : Int) := by omega
    cases h4 : longB e (atB l i) <;> simp [h1, h2]
theorem loopB_bad {e : Int} {l : List Br} {x y z q : D} {env : Ev} {b : Bag} : ∀ (ds : List D) (a : Int) (us : List Br) (s : Sl), (∀ d ∈ ds, Pl d) → ds.all (numB l.length) = false → us.length + ds.length < 100000 →
    forL (gNm 8) stepB ds (.va x :: .va y :: .va (.int e) :: .va z :: .va (encL l) :: .va q :: .va (.int a) :: .ol (us.map encB) :: s :: env) b = .rt (.bl false) b
  | [], a, us, s, _, h, _ => by simp at h
  | d :: ds, a, us, s, hd, h, hl => by
    simp only [List.length_cons] at hl
    unfold forL
    simp only [e_gNm, List.set_cons_succ, List.set_cons_zero]
    cases hb : numB l.length d with
    | false => rw [stepB_bad (hd d List.mem_cons_self) hb]
    | true =>
      obtain ⟨i, rfl, h0⟩ := num_of hb
      rw [stepB_ok h0 (by omega)]
      rw [List.all_cons, hb, Bool.true_and] at h
      cases hc : (decide (a < (i : Int)) && longB e (atB l i)) with
      | false => simp
      | true =>
        simp only [if_true]
        exact loopB_bad ds i (us ++ [atB l i]) _ (fun q hq => hd q (List.mem_cons_of_mem _ hq)) h (by simp; omega)
theorem loopB_ok {e : Int} {l : List Br} {x y z q : D} {env : Ev} {b : Bag} : ∀ (ns : List Nat) (a : Int) (us : List Br) (s : Sl), (∀ i ∈ ns, i < l.length) → us.length + ns.length < 100000 → ∃ a' s',
    forL (gNm 8) stepB (ns.map encI) (.va x :: .va y :: .va (.int e) :: .va z :: .va (encL l) :: .va q :: .va (.int a) :: .ol (us.map encB) :: s :: env) b =
      if chkB l e a ns = true then .nx (.va x :: .va y :: .va (.int e) :: .va z :: .va (encL l) :: .va q :: .va (.int a') :: .ol ((us ++ ns.map (atB l)).map encB) :: s' :: env) b else .rt (.bl false) b
  | [], a, us, s, _, _ => ⟨a, s, by simp [chkB]⟩
  | i :: ns, a, us, s, hp, hl => by
    have h0 := hp i List.mem_cons_self
    simp only [List.length_cons] at hl
    obtain ⟨a', s', ih⟩ := loopB_ok (b := b) (e := e) (x := x) (y := y) (z := z) (q := q) (env := env) ns i (us ++ [atB l i]) (.va (encI i)) (fun q hq => hp q (List.mem_cons_of_mem _ hq)) (by simp; omega)
    refine ⟨a', s', ?_⟩
    rw [List.map_cons]
    unfold forL
    simp only [e_gNm, List.set_cons_succ, List.set_cons_zero]
    rw [stepB_ok h0 (by omega)]
    unfold chkB
    cases hc : (decide (a < (i : Int)) && longB e (atB l i)) with
    | true =>
      simp only [if_true, Bool.true_and]
      rw [ih]
      simp
    | false => simp

theorem v_law_is_ban_no {l m : List Br} {e : Int} {d : D} {b : Bag} (hd : Pl d) (hn : ∀ x y, d = .tup [x, y] → sideB x = false ∨ isTup y = false) : fm__law_is_ban [encL l, encL m, .int e, d] b = .ok (.bl false) b := by
  cases hd with
  | tup hds =>
    rename_i ds
    match ds, hds with
    | [], _ => simp [fm__law_is_ban, e_fnM, ms__law_is_ban]
    | [x], _ => simp [fm__law_is_ban, e_fnM, ms__law_is_ban]
    | [x, y], h2 =>
      have hx := h2 x (by simp)
      have hy := h2 y (by simp)
      have hw : withB x 0 (2 - 1) = sideB x := by
        cases x <;> first | rfl | skip
        unfold withB sideB
        rw [Bool.eq_iff_iff]
        simp
        omega
      have hw : withB x 0 1 = sideB x := hw
      have hs := hn x y rfl
      simp [fm__law_is_ban, e_fnM, ms__law_is_ban, v_law_is_number hx, hw]
      cases hb : sideB x with
      | false => simp
      | true =>
        rw [hb] at hs
        have hs : isTup y = false := by simpa using hs
        simp [isi_tuple hy, hs]
    | x :: y :: z :: r, _ =>
      have : ¬ ((r.length : Int) + 1 + 1 + 1 = 2) := by omega
      simp [fm__law_is_ban, e_fnM, ms__law_is_ban, this]
  | _ => simp [fm__law_is_ban, e_fnM, ms__law_is_ban, isi_tuple (.dK _ _), isTup]
def finB : MS := (sSeq (sAsg (gNm 9) (mLc (mSeq (mVar 5)) (gNm 10) (mT (mB anyG (mCons (mLc (mSeq (mOwn 7)) (gNm 11) mYes (mCall0 fm__law_fits (mCons (mVar 11) (mCons (mVar 10) (mCons (mVar 2) mNil)))) [11]) mNil))) (mVar 10) [10])) (sRet (m2 ltG (mB lenG (mCons (mVar 9) mNil)) (mB lenG (mCons (m2 ixG (mVar 3) (mC (.int 1))) mNil)))))
theorem v_law_is_ban_in {l m : List Br} {e i : Int} {ds : List D} {b : Bag} (hi : i = 0 ∨ i = 1) :
    fm__law_is_ban [encL l, encL m, .int e, .tup [.int i, .tup ds]] b = finK (seqK finB (forL (gNm 8) stepB ds (.va (encL l) :: .va (encL m) :: .va (.int e) :: .va (.tup [.int i, .tup ds]) :: .va (encL (if i = 0 then l else m)) :: .va (encL (if i = 0 then m else l)) :: .va (.int (-1)) :: .ol [] :: .un :: [.un, .un, .un]) b)) := by
  rcases hi with rfl | rfl
  · simp [fm__law_is_ban, e_fnM, ms__law_is_ban, v_law_is_number (.int _), withB, stepB, finB]
  · simp [fm__law_is_ban, e_fnM, ms__law_is_ban, v_law_is_number (.int _), withB, stepB, finB]
theorem fin_ok {e a : Int} {l m : List Br} {x y z : D} {s : Sl} {ns : List Nat} {b : Bag} (hl : ns.length ≤ 1000) (hm : m.length ≤ 1000) :
    finB [.va x, .va y, .va (.int e), .va (.tup [z, .tup (ns.map encI)]), .va (encL l), .va (encL m), .va (.int a), .ol ((ns.map (atB l)).map encB), s, .un, .un, .un] b = .rt (.bl (decide ((m.filter fun y => ns.any fun i => fitB e (atB l i) y).length < ns.length))) b := by
  have z1 : ns.length ≤ 100000 := by omega
  have z2 : m.length ≤ 100000 := by omega
  simp only [finB]
  simp [encL, z2]
  rw [lc_pure m encB (fun y => ns.any fun i => fitB e (atB l i) y) encB]
  rotate_left
  · refine fun w hw => ⟨_, rfl, ?_, fun _ => rfl⟩
    simp [z1]
    rw [show (List.map (encB ∘ atB l) ns) = ns.map (fun i => encB (atB l i)) from rfl, lc_all ns (fun i => encB (atB l i)) (fun i => .bl (fitB e (atB l i) w))]
    rotate_left
    · exact fun i hq => ⟨_, rfl, by simp [v_law_fits]⟩
    simp only [R.bind_ok, o_anyM, R.opt_some, opt_bl]
  simp
theorem chkB_eq {l : List Br} {e : Int} : ∀ (ns : List Nat) (a : Int), chkB l e a ns =
    (((match ns with | [] => true | i :: _ => decide (a < (i : Int))) && ascB ns) && ns.all (fun i => longB e (atB l i)))
  | [], a => by simp [chkB, ascB]
  | i :: ns, a => by
    unfold chkB
    rw [chkB_eq ns]
    have hasc : ascB (i :: ns) = ((match ns with | [] => true | j :: _ => decide ((i : Int) < (j : Int))) && ascB ns) := by
      cases ns with
      | nil => simp [ascB]
      | cons q ps =>
        rw [asc_cons]
        congr 1
        rw [Bool.eq_iff_iff]
        simp
    rw [hasc, List.all_cons]
    generalize (match ns with | [] => true | j :: _ => decide ((i : Int) < (j : Int))) = g1
    generalize ascB ns = g2
    generalize longB e (atB l i) = g3
    generalize (ns.all fun i => longB e (atB l i)) = g4
    show (decide (a < (i : Int)) && g3 && (g1 && g2 && g4)) = (decide (a < (i : Int)) && (g1 && g2) && (g3 && g4))
    generalize decide (a < (i : Int)) = g0
    revert g0 g1 g2 g3 g4
    decide
theorem good_chk {l m : List Br} {e : Int} {ns : List Nat} : goodB l m e ns = (chkB l e (-1) ns && decide ((m.filter fun y => ns.any fun j => fitB e (atB l j) y).length < ns.length)) := by
  have hm1 : (match ns with | [] => true | i :: _ => decide ((-1 : Int) < (i : Int))) = true := by
    cases ns with
    | nil => rfl
    | cons p ps => simp; omega
  unfold goodB
  rw [chkB_eq, hm1, Bool.true_and]
/-- both tell the same of any thing -/
theorem ban_both {l m : List Br} {e : Int} {d : D} (h : Asked l m e) (hd : Pl d) (hl : ∀ x ds, d = .tup [x, .tup ds] → ds.length ≤ 1000) : ∃ k : Bool, ∀ b, fm_is_ban [encL l, encL m, .int e, d] b = .ok (.bl k) b ∧ fm__law_is_ban [encL l, encL m, .int e, d] b = .ok (.bl k) b := by
  by_cases hn : ∀ x y, d = .tup [x, y] → sideB x = false
  · exact ⟨false, fun b => ⟨v_is_ban_no h hd hn, v_law_is_ban_no hd fun x y e => .inl (hn x y e)⟩⟩
  obtain ⟨x, y, rfl, hx⟩ : ∃ x y, d = .tup [x, y] ∧ sideB x = true := by
    refine Classical.byContradiction fun z => hn fun x y e => ?_
    cases hs : sideB x with
    | false => rfl
    | true => exact absurd ⟨x, y, e, hs⟩ z
  obtain ⟨i, rfl, hi⟩ : ∃ i, x = .int i ∧ (i = 0 ∨ i = 1) := by
    unfold sideB at hx
    split at hx
    · rename_i i
      exact ⟨i, rfl, by simpa using hx⟩
    · cases hx
  obtain ⟨ds0, e0, hds0⟩ := of_tup hd rfl
  cases e0
  have hy : Pl y := hds0 y (by simp)
  have s1 : ∀ l m : List Br, l.length ≤ 20 → m.length ≤ 20 → (if i = 0 then l else m).length ≤ 20 := fun l m a b => by split <;> assumption
  cases ht : isTup y with
  | false => exact ⟨false, fun b => ⟨by rw [v_is_ban_in h hi, tail_no hy ht]; rfl, v_law_is_ban_no hd fun x y e => by cases e; exact .inr ht⟩⟩
  | true =>
    obtain ⟨ds, rfl, hds⟩ := of_tup hy ht
    have hl := hl _ ds rfl
    cases ha : ds.all (numB (if i = 0 then l else m).length) with
    | false =>
      refine ⟨false, fun b => ⟨by rw [v_is_ban_in h hi, tail_bad hds hl ha]; rfl, ?_⟩⟩
      rw [v_law_is_ban_in hi]
      have := loopB_bad (e := e) (l := if i = 0 then l else m) (x := encL l) (y := encL m) (z := .tup [.int i, .tup ds]) (q := encL (if i = 0 then m else l)) (env := [.un, .un, .un]) (b := b) ds (-1) [] .un hds ha (by simp; omega)
      rw [List.map_nil] at this
      rw [this]
      rfl
    | true =>
      obtain ⟨ns, rfl, hp⟩ := nums_of ha
      rw [List.length_map] at hl
      have hm : (if i = 0 then m else l).length ≤ 1000 := by have := s1 m l h.m2 h.l2; omega
      refine ⟨goodB (if i = 0 then l else m) (if i = 0 then m else l) e ns, fun b => ⟨by rw [v_is_ban_in h hi, tail_ok hp hl hm]; rfl, ?_⟩⟩
      rw [v_law_is_ban_in hi]
      obtain ⟨a', s', this⟩ := loopB_ok (e := e) (l := if i = 0 then l else m) (x := encL l) (y := encL m) (z := .tup [.int i, .tup (ns.map encI)]) (q := encL (if i = 0 then m else l)) (env := [.un, .un, .un]) (b := b) ns (-1) [] .un hp (by simp; omega)
      rw [List.map_nil] at this
      rw [this]
      rw [good_chk]
      cases hc : chkB (if i = 0 then l else m) e (-1) ns with
      | false =>
        rw [if_neg (by decide)]
        rfl
      | true =>
        simp only [if_true, seq_nx, List.nil_append]
        rw [fin_ok hl hm]
        simp

/-! ### plain data, none of it long -/
inductive Sm : D → Prop
  | non : Sm .non
  | bl (k : Bool) : Sm (.bl k)
  | int (k : Int) : Sm (.int k)
  | str (k : Str) : Sm (.str k)
  | tup {ds : List D} (h : ∀ d ∈ ds, Sm d) (l : ds.length ≤ 1000) : Sm (.tup ds)
  | lst {ds : List D} (h : ∀ d ∈ ds, Sm d) (l : ds.length ≤ 1000) : Sm (.lst ds)
  | dK (ks : List Key) (ds : List D) : Sm (.dK ks ds)
theorem Sm.pl {d : D} (h : Sm d) : Pl d := by
  induction h with
  | tup _ _ ih => exact .tup ih
  | lst _ _ ih => exact .lst ih
  | _ => constructor
theorem Sm.t0 : Sm (.tup []) := .tup (by simp) (by simp)
theorem Sm.t1 {a : D} (ha : Sm a) : Sm (.tup [a]) := .tup (by simpa using ha) (by simp)
theorem Sm.t2 {a c : D} (ha : Sm a) (hc : Sm c) : Sm (.tup [a, c]) := .tup (by simpa using ⟨ha, hc⟩) (by simp)
theorem Sm.l0 : Sm (.lst []) := .lst (by simp) (by simp)
theorem Sm.l1 {a : D} (ha : Sm a) : Sm (.lst [a]) := .lst (by simpa using ha) (by simp)
theorem Sm.len {ds : List D} (h : Sm (.tup ds)) : ds.length ≤ 1000 := by cases h; assumption
theorem Sm.mem {ds : List D} (h : Sm (.tup ds)) : ∀ d ∈ ds, Sm d := by cases h; assumption
/-! ### draws -/
theorem pick (b : Bag) (n : Int) (h : 0 < n ∧ n < 1073741824) : ∃ k b', fm__law_pick [.bag, .int n] b = .ok (.int k) b' ∧ 0 ≤ k ∧ k < n :=
  ⟨(pickF b n).1, (pickF b n).2, if_pos h, (pickF_nn h.1).1, (pickF_nn h.1).2⟩
theorem pickN (b : Bag) (n : Int) (h : 0 < n ∧ n < 1073741824) : ∃ (k : Nat) (b' : Bag), fm__law_pick [.bag, .int n] b = .ok (.int (k : Nat)) b' ∧ (k : Int) < n := by
  obtain ⟨k, b', e, h0, h1⟩ := pick b n h
  exact ⟨k.toNat, b', by rw [e, Int.toNat_of_nonneg h0], by omega⟩
theorem sp_some (b : Bag) (ds : List D) (h : ds ≠ []) (hl : ds.length ≤ 100000) : ∃ x ∈ ds, ∃ b', fm__law_some [.bag, .lst ds] b = .ok x b' := by
  have hp : 0 < ds.length := List.length_pos_iff.mpr h
  obtain ⟨k, b', e, hk⟩ := pickN b ds.length ⟨by omega, by omega⟩
  have hk : k < ds.length := by omega
  refine ⟨ds[k], List.getElem_mem hk, b', ?_⟩
  simp [fm__law_some, e_fnM, ms__law_some, e, at_nat, List.getElem?_eq_getElem hk]
def widB (w : Int) (x : Br) : Prop := -w ≤ x.1 ∧ x.1 ≤ w ∧ ∀ g, x.2 = some g → x.1 + 1 ≤ g ∧ g ≤ w
theorem wid_ok {w : Int} {x : Br} (h : widB w x) (hw : w ≤ 1000) : okB x = true := by
  obtain ⟨p, g⟩ := x
  obtain ⟨h1, h2, h3⟩ := h
  cases g with
  | none => simp [okB]; exact ⟨by simp at h1; omega, by simp at h2; omega⟩
  | some g =>
    have h3 := h3 g rfl
    simp only at h1 h2 h3
    simp [okB]
    omega
theorem small_of {i : Int} (h : -1000 ≤ i) (h2 : i ≤ 1000) : smallI i = true := by
  unfold smallI
  rw [Bool.and_eq_true, decide_eq_true_iff, decide_eq_true_iff]
  omega
set_option maxHeartbeats 1000000 in
theorem sp_bar (b : Bag) (w : Int) (hw : 1 ≤ w ∧ w ≤ 1000) : ∃ x b', fm__law_bar [.bag, .int w] b = .ok (encB x) b' ∧ widB w x := by
  obtain ⟨k1, b1, e1, l1, u1⟩ := pick b (2 * w + 1) (by omega)
  obtain ⟨k2, b2, e2, l2, u2⟩ := pick b1 4 (by omega)
  by_cases hc : k2 = 0 ∨ k1 - w = w
  · refine ⟨(if 999 < k1 - w then 999 else k1 - w, none), b2, ?_, by show -w ≤ if 999 < k1 - w then 999 else k1 - w; split <;> omega, by show (if 999 < k1 - w then 999 else k1 - w) ≤ w; split <;> omega, fun g h => by cases h⟩
    rcases hc with rfl | hc
    · simp [fm__law_bar, e_fnM, ms__law_bar, e1, e2, small2, encB, encG]
    · simp [fm__law_bar, e_fnM, ms__law_bar, e1, e2, small2, encB, encG, hc]
  · obtain ⟨x, hx, b3, e3⟩ := sp_some b2 [.int 2, .int 6, .int (2 * w)] (by simp) (by simp)
    obtain ⟨j, rfl, hj⟩ : ∃ j, x = .int j ∧ 1 ≤ j := by
      simp at hx
      rcases hx with rfl | rfl | rfl
      · exact ⟨_, rfl, by omega⟩
      · exact ⟨_, rfl, by omega⟩
      · exact ⟨_, rfl, by omega⟩
    have h2 : ¬ k2 = 0 := fun z => hc (.inl z)
    have h3 : ¬ k1 - w = w := fun z => hc (.inr z)
    by_cases hm : 1 + j < w - (k1 - w)
    · obtain ⟨k4, b4, e4, l4, u4⟩ := pick b3 (1 + j) (by omega)
      refine ⟨(k1 - w, some (k1 - w + 1 + k4)), b4, ?_, by show -w ≤ k1 - w; omega, by show k1 - w ≤ w; omega, fun g h => ?_⟩
      · simp [fm__law_bar, e_fnM, ms__law_bar, e1, e2, small2, encB, encG, h2, h3, e3, hm, e4]
      · cases h
        show k1 - w + 1 ≤ k1 - w + 1 + k4 ∧ k1 - w + 1 + k4 ≤ w
        omega
    · obtain ⟨k4, b4, e4, l4, u4⟩ := pick b3 (w - (k1 - w)) (by omega)
      refine ⟨(k1 - w, some (k1 - w + 1 + k4)), b4, ?_, by show -w ≤ k1 - w; omega, by show k1 - w ≤ w; omega, fun g h => ?_⟩
      · simp [fm__law_bar, e_fnM, ms__law_bar, e1, e2, small2, encB, encG, h2, h3, e3, hm, e4]
      · cases h
        show k1 - w + 1 ≤ k1 - w + 1 + k4 ∧ k1 - w + 1 + k4 ≤ w
        omega
theorem sp_moved (b : Bag) (w : Int) (x : Br) (hw : 1 ≤ w ∧ w ≤ 1000) (hx : widB w x) : ∃ y b', fm__law_moved [.bag, encB x, .int w] b = .ok (encB y) b' ∧ widB w y := by
  obtain ⟨p, g⟩ := x
  obtain ⟨k1, b1, e1, l1, u1⟩ := pick b 5 (by omega)
  generalize hq : (if (if p + k1 - 2 < w - 1 then p + k1 - 2 else w - 1) > -w then (if p + k1 - 2 < w - 1 then p + k1 - 2 else w - 1) else -w) = q
  have hq1 : -w ≤ q ∧ q ≤ w - 1 := by rw [← hq]; split <;> split at * <;> omega
  cases g with
  | none =>
    refine ⟨(q, none), b1, ?_, hq1.1, by show q ≤ w; omega, fun g h => by cases h⟩
    simp [fm__law_moved, e_fnM, ms__law_moved, e1, encB, encG]
    rw [← hq]
  | some g =>
    obtain ⟨k2, b2, e2, l2, u2⟩ := pick b1 5 (by omega)
    generalize hz : (if (if g + k2 - 2 < w then g + k2 - 2 else w) > q + 1 then (if g + k2 - 2 < w then g + k2 - 2 else w) else q + 1) = z
    have hz1 : q + 1 ≤ z ∧ z ≤ w := by rw [← hz]; split <;> split at * <;> omega
    refine ⟨(q, some z), b2, ?_, hq1.1, by show q ≤ w; omega, fun g h => by cases h; exact hz1⟩
    simp [fm__law_moved, e_fnM, ms__law_moved, e1, encB, encG, e2]
    simp only [gt_iff_lt] at hq hz
    rw [hq, hz]
    exact ⟨rfl, rfl⟩

theorem of_map {ι : Type} {enc : ι → D} {P : ι → Prop} {ds : List D} (h : ∀ d ∈ ds, ∃ x, d = enc x ∧ P x) : ∃ l : List ι, ds = l.map enc ∧ (∀ x ∈ l, P x) ∧ l.length = ds.length := by
  induction ds with
  | nil => exact ⟨[], rfl, by simp, rfl⟩
  | cons d ds ih =>
    obtain ⟨x, rfl, hx⟩ := h d List.mem_cons_self
    obtain ⟨l, rfl, hl, _⟩ := ih fun d hd => h d (List.mem_cons_of_mem _ hd)
    refine ⟨x :: l, rfl, fun y hy => ?_, by simp⟩
    rcases List.mem_cons.mp hy with rfl | hy
    · exact hx
    · exact hl y hy
def grow : MS := (sIf (mT (m2 gtG (mCall0 fm__law_pick (mCons (mVar 0) (mCons (mC (.int 6)) mNil))) (mC (.int 0)))) (sMeth 4 (mCons (mCall0 fm__law_pick (mCons (mVar 0) (mCons (m2 addG (mB lenG (mCons (mOwn 4) mNil)) (mC (.int 1))) mNil))) (mCons (mCall0 fm__law_moved (mCons (mVar 0) (mCons (mVar 5) (mCons (mVar 1) mNil)))) mNil)) insG) sSkip)
theorem grow_ok {w n : Int} {x5 x6 x3 : Sl} {x : Br} {m : List Br} (b : Bag) (hw : 1 ≤ w ∧ w ≤ 1000) (hx : widB w x) (hm : m.length ≤ 1000) (hmw : ∀ y ∈ m, widB w y) : ∃ (m' : List Br) (b' : Bag), grow [.va .bag, .va (.int w), .va (.int n), x3, .ol (m.map encB), .va (encB x), x6] b = .nx [.va .bag, .va (.int w), .va (.int n), x3, .ol (m'.map encB), .va (encB x), x6] b' ∧ (∀ y ∈ m', widB w y) ∧ m'.length ≤ m.length + 1 := by
  obtain ⟨k1, b1, e1, l1, u1⟩ := pick b 6 (by omega)
  by_cases h0 : 0 < k1
  · obtain ⟨k2, b2, e2, u2⟩ := pickN b1 ((m.length : Int) + 1) (by omega)
    obtain ⟨y, b3, e3, hy⟩ := sp_moved b2 w x hw hx
    refine ⟨m.take k2 ++ [y] ++ m.drop k2, b3, ?_, ?_, ?_⟩
    · have h1 : m.length < 100000 := by omega
      have h2 : (k2 : Int) < 1000000 := by omega
      simp [grow, e1, h0, e2, e3, h1, h2]
    · intro z hz
      simp at hz
      rcases hz with hz | rfl | hz
      · exact hmw z (List.mem_of_mem_take hz)
      · exact hy
      · exact hmw z (List.mem_of_mem_drop hz)
    · simp
      omega
  · exact ⟨m, b1, by simp [grow, e1, h0], hmw, by omega⟩
theorem grow_loop {w n : Int} {x6 x3 : Sl} (hw : 1 ≤ w ∧ w ≤ 1000) : ∀ (l m : List Br) (x5 : Sl) (b : Bag), (∀ y ∈ l, widB w y) → (∀ y ∈ m, widB w y) → m.length + l.length ≤ 1000 → ∃ (m' : List Br) (x5' : Sl) (b' : Bag), forL (gNm 5) grow (l.map encB) [.va .bag, .va (.int w), .va (.int n), x3, .ol (m.map encB), x5, x6] b = .nx [.va .bag, .va (.int w), .va (.int n), x3, .ol (m'.map encB), x5', x6] b' ∧ (∀ y ∈ m', widB w y) ∧ m'.length ≤ m.length + l.length
  | [], m, x5, b, hl, hm, hz => ⟨m, x5, b, rfl, hm, by simp⟩
  | x :: l, m, x5, b, hl, hm, hz => by
    simp only [List.length_cons] at hz
    obtain ⟨m1, b1, e1, h1, z1⟩ := grow_ok (n := n) (x5 := x5) (x6 := x6) (x3 := x3) (x := x) (m := m) b hw (hl x List.mem_cons_self) (by omega) hm
    obtain ⟨m2, x5', b2, e2, h2, z2⟩ := grow_loop (n := n) (x6 := x6) (x3 := x3) hw l m1 (.va (encB x)) b1 (fun y hy => hl y (List.mem_cons_of_mem _ hy)) h1 (by omega)
    refine ⟨m2, x5', b2, ?_, h2, by simp; omega⟩
    rw [List.map_cons]
    unfold forL
    simp only [e_gNm, List.set_cons_succ, List.set_cons_zero]
    rw [e1]
    exact e2
def moreT : MT := (mAndT (mT (m2 ltG (mB lenG (mCons (mOwn 4) mNil)) (mVar 2))) (mT (m2 eqG (mCall0 fm__law_pick (mCons (mVar 0) (mCons (mC (.int 3)) mNil))) (mC (.int 0)))))
def moreS : MS := (sMeth 4 (mCons (mCall0 fm__law_bar (mCons (mVar 0) (mCons (mVar 1) mNil))) mNil) appG)
theorem more_loop {w : Int} {n : Nat} {x3 x5 x6 : Sl} (hw : 1 ≤ w ∧ w ≤ 1000) (hn : n ≤ 40) : ∀ (f : Nat) (m : List Br) (b : Bag), (∀ y ∈ m, widB w y) → m.length ≤ n → n - m.length < f → ∃ (m' : List Br) (b' : Bag), whl moreT moreS f [.va .bag, .va (.int w), .va (.int n), x3, .ol (m.map encB), x5, x6] b = .nx [.va .bag, .va (.int w), .va (.int n), x3, .ol (m'.map encB), x5, x6] b' ∧ (∀ y ∈ m', widB w y) ∧ m'.length ≤ n
  | 0, m, b, _, _, h => by omega
  | f + 1, m, b, hm, hl, hf => by
    unfold whl
    by_cases h0 : m.length < n
    · obtain ⟨k1, b1, e1, l1, u1⟩ := pick b 3 (by omega)
      have et : moreT [.va .bag, .va (.int w), .va (.int n), x3, .ol (m.map encB), x5, x6] b = .ok (decide (k1 = 0)) b1 := by simp [moreT, h0, e1]
      rw [et]
      by_cases hk : k1 = 0
      · rw [decide_eq_true hk]
        obtain ⟨y, b2, e2, hy⟩ := sp_bar b1 w hw
        have es : moreS [.va .bag, .va (.int w), .va (.int n), x3, .ol (m.map encB), x5, x6] b1 = .nx [.va .bag, .va (.int w), .va (.int n), x3, .ol ((m ++ [y]).map encB), x5, x6] b2 := by
          have : m.length < 100000 := by omega
          simp [moreS, e2, this]
        dsimp only
        rw [es]
        exact more_loop hw hn f (m ++ [y]) b2 (fun z hz => by
          rcases List.mem_append.mp hz with hz | hz
          · exact hm z hz
          · rw [List.mem_singleton.mp hz]; exact hy) (by simp; omega) (by simp; omega)
      · rw [decide_eq_false hk]
        exact ⟨m, b1, rfl, hm, hl⟩
    · have et : moreT [.va .bag, .va (.int w), .va (.int n), x3, .ol (m.map encB), x5, x6] b = .ok false b := by simp [moreT, h0]
      rw [et]
      exact ⟨m, b, rfl, hm, hl⟩
theorem sp_lists (b : Bag) (w : Int) (n : Nat) (hw : 1 ≤ w ∧ w ≤ 1000) (hn : n ≤ 40) : ∃ (l m : List Br) (b' : Bag), fm__law_lists [.bag, .int w, .int n] b = .ok (.tup [encL l, encL m]) b' ∧ l.all okB = true ∧ m.all okB = true ∧ l.length ≤ n ∧ m.length ≤ n := by
  obtain ⟨k, b1, e1, hk⟩ := pickN b ((n : Int) + 1) (by omega)
  obtain ⟨ds, b2, e2, -, hds, hl⟩ := lc_draw (I := fun _ => True) (Q := fun d => ∃ x, d = encB x ∧ widB w x) (g := gNm 6) (mt := mYes) (me := mCall0 fm__law_bar (mCons (mVar 0) (mCons (mVar 1) mNil))) (env := [.va .bag, .va (.int w), .va (.int n), .un, .un, .un, .un]) (ds := (List.range k).map fun i => .int (i : Nat)) (fun x hx b _ => by
    obtain ⟨x, b', e, h⟩ := sp_bar b w hw
    exact ⟨_, rfl, true, b, rfl, trivial, fun _ => ⟨encB x, b', by simp [e], trivial, x, rfl, h⟩⟩) b1 trivial
  obtain ⟨l, rfl, hlw, hll⟩ := of_map hds
  simp only [List.length_map, List.length_range] at hl
  obtain ⟨m1, x5, b3, e3, h3, z3⟩ := grow_loop (n := n) (x6 := .un) (x3 := .va (.lst (l.map encB))) hw l [] .un b2 hlw (by simp) (by simp at hl ⊢; omega)
  obtain ⟨m2, b4, e4, h4, z4⟩ := more_loop (n := n) (x3 := .va (.lst (l.map encB))) (x5 := x5) (x6 := .un) hw hn 50 m1 b3 h3 (by simp at z3; omega) (by omega)
  refine ⟨l, m2, b4, ?_, List.all_eq_true.mpr fun x hx => wid_ok (hlw x hx) (by omega), List.all_eq_true.mpr fun x hx => wid_ok (h4 x hx) (by omega), by omega, z4⟩
  unfold grow at e3
  unfold moreT moreS at e4
  rw [List.map_nil] at e3
  have z1 : (k : Int) ≤ 1000000 := by omega
  have z2 : k ≤ 100000 := by omega
  have z3 : l.length ≤ 100000 := by omega
  simp [fm__law_lists, e_fnM, ms__law_lists, e1, z1, z2, e2, e3, e4, encL]

/-! ### dicts whose keys are numbers -/
section
variable {ι : Type}
def lookN : List (Nat × ι) → Nat → Option ι
  | [], _ => none
  | p :: t, k => if p.1 = k then some p.2 else lookN t k
def setN (p : List (Nat × ι)) (k : Nat) (v : ι) : List (Nat × ι) := if k ∈ p.map (·.1) then p.map (fun x => if x.1 = k then (x.1, v) else x) else p ++ [(k, v)]
def dropN (p : List (Nat × ι)) (k : Nat) : List (Nat × ι) := p.filter fun x => decide (x.1 ≠ k)
def kN (p : List (Nat × ι)) : List Key := p.map fun x => kOf x.1
def vN (enc : ι → D) (p : List (Nat × ι)) : List D := p.map fun x => enc x.2
theorem getK_N (enc : ι → D) : ∀ (p : List (Nat × ι)) (k : Nat), getK (kN p) (vN enc p) (kOf k) = (lookN p k).map enc
  | [], k => rfl
  | x :: p, k => by
    have ih := getK_N enc p k
    unfold kN vN at ih ⊢
    rw [List.map_cons, List.map_cons, getK, lookN]
    by_cases h : x.1 = k
    · rw [if_pos (by rw [h]), if_pos h]
      rfl
    · rw [if_neg (fun z => h (kOf_inj z)), if_neg h]
      exact ih
theorem mem_kN {p : List (Nat × ι)} {k : Nat} : kOf k ∈ kN p ↔ k ∈ p.map (·.1) := by
  unfold kN
  simp only [List.mem_map]
  constructor
  · rintro ⟨x, hx, e⟩
    exact ⟨x, hx, kOf_inj e⟩
  · rintro ⟨x, hx, e⟩
    exact ⟨x, hx, by rw [e]⟩
theorem putKs_N (p : List (Nat × ι)) (k : Nat) (v : ι) : putKs (kN p) (kOf k) = kN (setN p k v) := by
  unfold putKs setN
  by_cases h : k ∈ p.map (·.1)
  · rw [if_pos (mem_kN.mpr h), if_pos h]
    unfold kN
    rw [List.map_map]
    refine List.map_congr_left fun x _ => ?_
    show kOf x.1 = kOf (if x.1 = k then (x.1, v) else x).1
    split <;> rfl
  · rw [if_neg (fun z => h (mem_kN.mp z)), if_neg h]
    unfold kN
    rw [List.map_append]
    rfl
theorem zipW_N (enc : ι → D) (k : Nat) (v : ι) : ∀ p : List (Nat × ι), List.zipWith (fun k' d' => if k' = kOf k then enc v else d') (kN p) (vN enc p) = vN enc (p.map fun x => if x.1 = k then (x.1, v) else x)
  | [] => rfl
  | x :: p => by
    have ih := zipW_N enc k v p
    unfold kN vN at ih ⊢
    rw [List.map_cons, List.map_cons, List.zipWith_cons_cons, ih, List.map_cons, List.map_cons]
    congr 1
    by_cases h : x.1 = k
    · rw [if_pos (by rw [h]), if_pos h]
    · rw [if_neg (fun z => h (kOf_inj z)), if_neg h]
theorem putDs_N (enc : ι → D) (p : List (Nat × ι)) (k : Nat) (v : ι) : putDs (kN p) (vN enc p) (kOf k) (enc v) = vN enc (setN p k v) := by
  unfold putDs setN
  by_cases h : k ∈ p.map (·.1)
  · rw [if_pos (mem_kN.mpr h), if_pos h]
    exact zipW_N enc k v p
  · rw [if_neg (fun z => h (mem_kN.mp z)), if_neg h]
    unfold vN
    rw [List.map_append]
    rfl
theorem dropKs_N (p : List (Nat × ι)) (k : Nat) : dropKs (kN p) (kOf k) = kN (dropN p k) := by
  unfold dropKs dropN kN
  rw [List.filter_map]
  congr 1
  refine List.filter_congr fun x _ => ?_
  show decide (kOf x.1 ≠ kOf k) = decide (x.1 ≠ k)
  by_cases h : x.1 = k
  · simp [h]
  · have h2 : kOf x.1 ≠ kOf k := fun z => h (kOf_inj z)
    rw [decide_eq_true h, decide_eq_true h2]
theorem dropDs_N (enc : ι → D) (k : Nat) : ∀ p : List (Nat × ι), dropDs (kN p) (vN enc p) (kOf k) = vN enc (dropN p k)
  | [] => rfl
  | x :: p => by
    have ih := dropDs_N enc k p
    unfold kN vN dropN at ih ⊢
    rw [List.map_cons, List.map_cons, dropDs, ih]
    by_cases h : x.1 = k
    · rw [if_neg (by rw [h]; exact fun z => z rfl), List.filter_cons_of_neg (by simp [h])]
    · rw [if_pos (fun z => h (kOf_inj z)), List.filter_cons_of_pos (by simp [h]), List.map_cons]
theorem look_set (p : List (Nat × ι)) (k : Nat) (v : ι) (j : Nat) : lookN (setN p k v) j = if j = k then some v else lookN p j := by
  unfold setN
  split
  · rename_i h
    induction p with
    | nil => simp at h
    | cons x p ih =>
      rw [List.map_cons]
      by_cases hx : x.1 = k
      · rw [if_pos hx, lookN, lookN]
        by_cases hj : j = k
        · rw [if_pos (by show x.1 = j; omega), if_pos hj]
        · rw [if_neg (by show ¬ x.1 = j; omega), if_neg hj, if_neg (by omega)]
          by_cases hk : k ∈ p.map (·.1)
          · rw [ih hk, if_neg hj]
          · have : p.map (fun x => if x.1 = k then (x.1, v) else x) = p := by
              refine (List.map_congr_left fun y hy => ?_).trans (List.map_id p)
              rw [if_neg (fun z => hk (List.mem_map.mpr ⟨y, hy, z⟩))]
              rfl
            rw [this]
      · rw [if_neg hx, lookN, lookN]
        have hk : k ∈ p.map (·.1) := by
          rcases List.mem_cons.mp h with z | z
          · exact absurd z.symm hx
          · exact z
        by_cases hj : x.1 = j
        · rw [if_pos hj, if_pos hj, if_neg (by omega)]
        · rw [if_neg hj, if_neg hj]
          exact ih hk
  · rename_i h
    induction p with
    | nil =>
      show (if k = j then some v else none) = _
      by_cases hj : j = k
      · rw [if_pos hj.symm, if_pos hj]
      · rw [if_neg (Ne.symm hj), if_neg hj]
        rfl
    | cons x p ih =>
      have h1 : ¬ k = x.1 := fun z => h (by rw [z]; exact List.mem_cons_self)
      have h2 : ¬ k ∈ p.map (·.1) := fun z => h (List.mem_cons_of_mem _ z)
      rw [List.cons_append, lookN, lookN, ih h2]
      by_cases hj : x.1 = j
      · rw [if_pos hj, if_pos hj, if_neg (by omega)]
      · rw [if_neg hj, if_neg hj]
end

@[simp] theorem o_dict {ks : List Key} {ds : List D} : dictG [.dK ks ds] = some (.dK ks ds) := rfl
@[simp] theorem e_dset {i : Nat} {mk mv : ME} {env : Ev} {b : Bag} : sDSet i mk mv env b = (mv env b).so fun v b => dsetK env i mk v b env[i]? := rfl
@[simp] theorem e_dsetK {i : Nat} {mk : ME} {v : D} {env : Ev} {b : Bag} {ks : List Key} {ds : List D} : dsetK env i mk v b (some (.oK ks ds)) = (mk env b).so fun k b => setK env i v k b ks ds := rfl
theorem setK_int {i : Nat} {env : Ev} {b : Bag} {ks : List Key} {ds : List D} {v : D} {k : Int} : setK env i v (.int k) b ks ds = if ks.length < 100000 then .nx (env.set i (.oK (putKs ks (.inl k)) (putDs ks ds (.inl k) v))) b else .stuck := rfl
def encO : Option Nat → D
  | none => .non
  | some a => .int (a : Nat)
def encW (x : Nat × Option Nat) : D := .tup [.int (x.1 : Nat), encO x.2]
def encM (p : List (Nat × Nat)) : D := .dK (kN p) (vN encI p)
def encC (p : List (Nat × (Nat × Option Nat))) : D := .dK (kN p) (vN encW p)
def backF (came : List (Nat × (Nat × Option Nat))) : Nat → List (Nat × Nat) → Option Nat → Option (List (Nat × Nat))
  | _, f, none => some f
  | 0, _, some _ => none
  | n + 1, f, some u => match lookN came u with
    | none => none
    | some w => if f.length < 1000 then backF came n (setN f w.1 u) w.2 else none
theorem dget_N {ι : Type} (enc : ι → D) (p : List (Nat × ι)) (k : Nat) : dgetG (.dK (kN p) (vN enc p)) (.int (k : Nat)) = (lookN p k).map enc := by
  show ((keyD (.int (k : Nat))).bind fun k => getK (kN p) (vN enc p) k) = _
  exact getK_N enc p k
def backT : MT := (mT (m2 isnG (mVar 4) (mC .non)))
def backS : MS := (sSeq (sAsg (gTp (gCn (gNm 5) (gCn (gNm 6) gNl))) (m2 dgetG (mVar 0) (mVar 4))) (sSeq (sDSet 3 (mVar 5) (mVar 4)) (sAsg (gNm 4) (mVar 6))))
theorem back_loop {came : List (Nat × (Nat × Option Nat))} {x1 x2 : Sl} {b : Bag} : ∀ (n : Nat) (f : List (Nat × Nat)) (o : Option Nat) (s5 s6 : Sl) (r : List (Nat × Nat)), backF came n f o = some r → ∃ s4 s5' s6', whl backT backS (n + 1) [.va (encC came), x1, x2, .oK (kN f) (vN encI f), .va (encO o), s5, s6] b = .nx [.va (encC came), x1, x2, .oK (kN r) (vN encI r), s4, s5', s6'] b
  | n, f, none, s5, s6, r, h => by
    have h : some f = some r := by cases n <;> exact h
    cases h
    exact ⟨.va .non, s5, s6, by simp [whl, backT, encO]⟩
  | 0, f, some u, s5, s6, r, h => by cases h
  | n + 1, f, some u, s5, s6, r, h => by
    rw [backF] at h
    cases hl : lookN came u with
    | none => rw [hl] at h; cases h
    | some w =>
      rw [hl] at h
      have h : (if f.length < 1000 then backF came n (setN f w.1 u) w.2 else none) = some r := h
      by_cases hz : f.length < 1000
      · rw [if_pos hz] at h
        obtain ⟨s4, s5', s6', e⟩ := back_loop (x1 := x1) (x2 := x2) (b := b) n (setN f w.1 u) w.2 (.va (.int (w.1 : Nat))) (.va (encO w.2)) r h
        refine ⟨s4, s5', s6', ?_⟩
        have et : backT [.va (encC came), x1, x2, .oK (kN f) (vN encI f), .va (encO (some u)), s5, s6] b = .ok true b := by simp [backT, encO]
        have z : (kN f).length < 100000 := by unfold kN; simp; omega
        have es : backS [.va (encC came), x1, x2, .oK (kN f) (vN encI f), .va (encO (some u)), s5, s6] b = .nx [.va (encC came), x1, x2, .oK (kN (setN f w.1 u)) (vN encI (setN f w.1 u)), .va (encO w.2), .va (.int (w.1 : Nat)), .va (encO w.2)] b := by
          simp [backS, encC, encO, dget_N, hl, encW, setK_int, z]
          rw [show (Sum.inl (w.1 : Int) : Key) = kOf w.1 from rfl, putKs_N, show D.int (u : Nat) = encI u from rfl, putDs_N]
          exact ⟨rfl, rfl⟩
        rw [whl, et]
        dsimp only
        rw [es]
        exact e
      · rw [if_neg hz] at h; cases h
theorem v_back_along {came : List (Nat × (Nat × Option Nat))} {p r : List (Nat × Nat)} {last : Nat} {b : Bag} (h : backF came 99 p (some last) = some r) : fm_back_along [encC came, encM p, .int (last : Nat)] b = .ok (encM r) b := by
  obtain ⟨s4, s5, s6, e⟩ := back_loop (x1 := .va (encM p)) (x2 := .va (.int (last : Nat))) (b := b) 99 p (some last) .un .un r h
  unfold backT backS at e
  simp only [encM] at e ⊢
  have e : whl _ _ 100 _ b = _ := e
  simp only [encO] at e
  simp [fm_back_along, e_fnM, ms_back_along, e]

/-! ### way_from, plainly -/
abbrev Came := List (Nat × (Nat × Option Nat))
abbrev Que := List (Nat × Option Nat)
structure Way where
  came : Came
  que : Que
  lot : List Nat
/-- l: mine, m: others, M: paired (here -> there), W: its inverse -/
def wayI (l m : List Br) (e : Int) (M W : List (Nat × Nat)) (x : Nat) (a : Option Nat) : List Nat → Way → Option (Sum (List (Nat × Nat)) Way)
  | [], w => some (.inr w)
  | j :: js, w => if (lookN w.came j).isSome = true ∨ fitB e (atB l x) (atB m j) = false then wayI l m e M W x a js w else
    let came := setN w.came j (x, a)
    match lookN W j with
    | none => (backF came 99 M (some j)).map .inl
    | some y => if longB e (atB l y) = false then (backF came 99 (dropN M y) (some j)).map .inl
      else wayI l m e M W x a js ⟨came, w.que ++ [(y, some j)], w.lot ++ [y]⟩
def wayQ (l m : List Br) (e : Int) (M W : List (Nat × Nat)) : Nat → Way → Option (Sum (List (Nat × Nat)) (List Nat))
  | _, ⟨_, [], lot⟩ => some (.inr lot)
  | 0, _ => none
  | n + 1, ⟨came, (x, a) :: que, lot⟩ => match wayI l m e M W x a (List.range m.length) ⟨came, que, lot⟩ with
    | none => none
    | some (.inl f) => some (.inl f)
    | some (.inr w) => wayQ l m e M W n w

def wayS : MS := (sSeq (sIf (mOrT (mT (m2 (inG false) (mVar 11) (mOwn 6))) (mNotT (mT (mCall0 fm_do_fit (mCons (m2 ixG (mVar 0) (mVar 9)) (mCons (mVar 12) (mCons (mVar 2) mNil))))))) sCt sSkip) (sSeq (sDSet 6 (mVar 11) (mTup (mCons (mVar 9) (mCons (mVar 10) mNil)))) (sSeq (sIf (mT (m2 (inG true) (mVar 11) (mVar 5))) (sFrz 6 (sRet (mTup (mCons (mCall0 fm_back_along (mCons (mVar 6) (mCons (mVar 3) (mCons (mVar 11) mNil)))) (mCons (mC .non) mNil))))) sSkip) (sSeq (sAsg (gNm 13) (m2 dgetG (mVar 5) (mVar 11))) (sSeq (sIf (mNotT (mT (mCall0 fm_is_long (mCons (m2 ixG (mVar 0) (mVar 13)) (mCons (mVar 2) mNil))))) (sSeq (sOwn 14 (mB dictG (mCons (mVar 3) mNil))) (sSeq (sDPop 14 (mVar 13)) (sFrz 14 (sFrz 6 (sRet (mTup (mCons (mCall0 fm_back_along (mCons (mVar 6) (mCons (mVar 14) (mCons (mVar 11) mNil)))) (mCons (mC .non) mNil)))))))) sSkip) (sSeq (sMeth 8 (mCons (mVar 13) mNil) appG) (sMeth 7 (mCons (mTup (mCons (mVar 13) (mCons (mVar 11) mNil))) mNil) appG)))))))
theorem in_N {ι : Type} (enc : ι → D) (neg : Bool) (p : List (Nat × ι)) (k : Nat) : inG neg (.int (k : Nat)) (.dK (kN p) (vN enc p)) = some (.bl (neg ^^ (lookN p k).isSome)) := by
  show ((keyD (.int (k : Nat))).map fun x => D.bl (neg ^^ (getK (kN p) (vN enc p) x).isSome)) = _
  show some (D.bl (neg ^^ (getK (kN p) (vN enc p) (kOf k)).isSome)) = _
  rw [getK_N]
  cases lookN p k <;> rfl
/-- the bars, as a list, a tuple -/
def IsBars (d : D) (l : List Br) : Prop := d = .lst (l.map encB) ∨ d = .tup (l.map encB)
theorem IsBars.at {d : D} {l : List Br} (h : IsBars d l) {k : Nat} (hk : k < l.length) : ixG d (.int (k : Nat)) = some (encB (atB l k)) := by
  rcases h with rfl | rfl <;> exact atB_get hk
@[simp] theorem e_dpop {i : Nat} {mk : ME} {env : Ev} {b : Bag} : sDPop i mk env b = dpopK env i mk b env[i]? := rfl
@[simp] theorem e_dpopK {i : Nat} {mk : ME} {env : Ev} {b : Bag} {ks : List Key} {ds : List D} : dpopK env i mk b (some (.oK ks ds)) = (mk env b).so fun k b => popK env i k b ks ds := rfl
theorem popK_int {i : Nat} {env : Ev} {b : Bag} {ks : List Key} {ds : List D} {k : Int} : popK env i (.int k) b ks ds = if (getK ks ds (.inl k)).isSome = true then .nx (env.set i (.oK (dropKs ks (.inl k)) (dropDs ks ds (.inl k)))) b else .stuck := rfl
/-- it is skipped -/
theorem way_skip {l m : List Br} {e : Int} {M W : List (Nat × Nat)} {x j : Nat} {a : Option Nat} {dl dm : D} {x4 s13 s14 : Sl} {w : Way} {b : Bag} (hl : IsBars dl l) (hx : x < l.length) (h : (lookN w.came j).isSome = true ∨ fitB e (atB l x) (atB m j) = false) :
    wayS [.va dl, .va dm, .va (.int e), .va (encM M), x4, .va (encM W), .oK (kN w.came) (vN encW w.came), .ol (w.que.map encW), .ol (w.lot.map encI), .va (encI x), .va (encO a), .va (encI j), .va (encB (atB m j)), s13, s14] b =
      .ct [.va dl, .va dm, .va (.int e), .va (encM M), x4, .va (encM W), .oK (kN w.came) (vN encW w.came), .ol (w.que.map encW), .ol (w.lot.map encI), .va (encI x), .va (encO a), .va (encI j), .va (encB (atB m j)), s13, s14] b := by
  have hat := hl.at hx
  simp only [encI] at hat ⊢
  cases hc : (lookN w.came j).isSome with
  | true => simp [wayS, in_N, hc]
  | false =>
    rw [hc] at h
    have h : fitB e (atB l x) (atB m j) = false := by simpa using h
    simp [wayS, in_N, hat, v_do_fit, hc, h]
/-- it is free: the way ends here -/
theorem way_free {l m : List Br} {e : Int} {M W : List (Nat × Nat)} {x j : Nat} {a : Option Nat} {dl dm : D} {x4 s13 s14 : Sl} {w : Way} {b : Bag} {r : List (Nat × Nat)} (hl : IsBars dl l) (hx : x < l.length) (hc : (lookN w.came j).isSome = false) (hf : fitB e (atB l x) (atB m j) = true) (hW : lookN W j = none) (hz : w.came.length < 1000)
    (hb : backF (setN w.came j (x, a)) 99 M (some j) = some r) :
    wayS [.va dl, .va dm, .va (.int e), .va (encM M), x4, .va (encM W), .oK (kN w.came) (vN encW w.came), .ol (w.que.map encW), .ol (w.lot.map encI), .va (encI x), .va (encO a), .va (encI j), .va (encB (atB m j)), s13, s14] b = .rt (.tup [encM r, .non]) b := by
  have hat := hl.at hx
  have hv := v_back_along (b := b) hb
  have z : (kN w.came).length < 100000 := by unfold kN; simp; omega
  have e1 : putKs (kN w.came) (Sum.inl (j : Int) : Key) = kN (setN w.came j (x, a)) := putKs_N w.came j (x, a)
  have e2 : putDs (kN w.came) (vN encW w.came) (Sum.inl (j : Int) : Key) (encW (x, a)) = vN encW (setN w.came j (x, a)) := putDs_N encW w.came j (x, a)
  have e3 : D.tup [.int (x : Nat), encO a] = encW (x, a) := rfl
  simp only [encI, encC, encM] at hat hv ⊢
  simp [wayS, in_N, hat, v_do_fit, hc, hf, setK_int, z, e1, e2, e3, hW, hv]
/-- it is held by a bar that is not long -/
theorem way_lone {l m : List Br} {e : Int} {M W : List (Nat × Nat)} {x j y : Nat} {a : Option Nat} {dl dm : D} {x4 s13 s14 : Sl} {w : Way} {b : Bag} {r : List (Nat × Nat)} (hl : IsBars dl l) (hx : x < l.length) (hy : y < l.length) (hc : (lookN w.came j).isSome = false) (hf : fitB e (atB l x) (atB m j) = true) (hW : lookN W j = some y) (hlo : longB e (atB l y) = false) (hM : (lookN M y).isSome = true) (hz : w.came.length < 1000)
    (hb : backF (setN w.came j (x, a)) 99 (dropN M y) (some j) = some r) :
    wayS [.va dl, .va dm, .va (.int e), .va (encM M), x4, .va (encM W), .oK (kN w.came) (vN encW w.came), .ol (w.que.map encW), .ol (w.lot.map encI), .va (encI x), .va (encO a), .va (encI j), .va (encB (atB m j)), s13, s14] b = .rt (.tup [encM r, .non]) b := by
  have hat := hl.at hx
  have hat2 := hl.at hy
  have hv := v_back_along (b := b) hb
  have z : (kN w.came).length < 100000 := by unfold kN; simp; omega
  have e1 : putKs (kN w.came) (Sum.inl (j : Int) : Key) = kN (setN w.came j (x, a)) := putKs_N w.came j (x, a)
  have e2 : putDs (kN w.came) (vN encW w.came) (Sum.inl (j : Int) : Key) (encW (x, a)) = vN encW (setN w.came j (x, a)) := putDs_N encW w.came j (x, a)
  have e3 : D.tup [.int (x : Nat), encO a] = encW (x, a) := rfl
  have e4 : (getK (kN M) (vN encI M) (Sum.inl (y : Int) : Key)).isSome = true := by
    rw [show (Sum.inl (y : Int) : Key) = kOf y from rfl, getK_N]
    cases h : lookN M y with
    | none => rw [h] at hM; cases hM
    | some v => rfl
  have e5 : dropKs (kN M) (Sum.inl (y : Int) : Key) = kN (dropN M y) := dropKs_N M y
  have e6 : dropDs (kN M) (vN encI M) (Sum.inl (y : Int) : Key) = vN encI (dropN M y) := dropDs_N encI y M
  have e7 := dget_N encI W j
  rw [hW] at e7
  simp only [encI, encC, encM] at hat hat2 hv e2 e4 e6 e7 ⊢
  simp [wayS, in_N, hat, hat2, v_do_fit, hc, hf, setK_int, z, e1, e2, e3, hW, e7, v_is_long, hlo, popK_int, e4, e5, e6, hv]
/-- it is held by a long bar: that one waits now -/
theorem way_on {l m : List Br} {e : Int} {M W : List (Nat × Nat)} {x j y : Nat} {a : Option Nat} {dl dm : D} {x4 s13 s14 : Sl} {w : Way} {b : Bag} (hl : IsBars dl l) (hx : x < l.length) (hy : y < l.length) (hc : (lookN w.came j).isSome = false) (hf : fitB e (atB l x) (atB m j) = true) (hW : lookN W j = some y) (hlo : longB e (atB l y) = true) (hz : w.came.length < 1000) (h7 : w.que.length < 1000) (h8 : w.lot.length < 1000) :
    wayS [.va dl, .va dm, .va (.int e), .va (encM M), x4, .va (encM W), .oK (kN w.came) (vN encW w.came), .ol (w.que.map encW), .ol (w.lot.map encI), .va (encI x), .va (encO a), .va (encI j), .va (encB (atB m j)), s13, s14] b =
      .nx [.va dl, .va dm, .va (.int e), .va (encM M), x4, .va (encM W), .oK (kN (setN w.came j (x, a))) (vN encW (setN w.came j (x, a))), .ol ((w.que ++ [(y, some j)]).map encW), .ol ((w.lot ++ [y]).map encI), .va (encI x), .va (encO a), .va (encI j), .va (encB (atB m j)), .va (encI y), s14] b := by
  have hat := hl.at hx
  have hat2 := hl.at hy
  have z : (kN w.came).length < 100000 := by unfold kN; simp; omega
  have e1 : putKs (kN w.came) (Sum.inl (j : Int) : Key) = kN (setN w.came j (x, a)) := putKs_N w.came j (x, a)
  have e2 : putDs (kN w.came) (vN encW w.came) (Sum.inl (j : Int) : Key) (encW (x, a)) = vN encW (setN w.came j (x, a)) := putDs_N encW w.came j (x, a)
  have e3 : D.tup [.int (x : Nat), encO a] = encW (x, a) := rfl
  have e7 := dget_N encI W j
  rw [hW] at e7
  have z7 : w.que.length < 100000 := by omega
  have z8 : w.lot.length < 100000 := by omega
  simp only [encI, encC, encM] at hat hat2 e2 e7 ⊢
  simp [wayS, in_N, hat, hat2, v_do_fit, hc, hf, setK_int, z, e1, e2, e3, hW, e7, v_is_long, hlo, z7, z8]
  simp [encW, encO]

theorem enum_range (m : List Br) : enumD 0 (m.map encB) = (List.range m.length).map fun j => D.tup [encI j, encB (atB m j)] := by
  apply List.ext_getElem?
  intro i
  rw [enumD_get, List.getElem?_map, List.getElem?_map, Nat.zero_add]
  by_cases h : i < m.length
  · rw [List.getElem?_eq_getElem h, List.getElem?_eq_getElem (by rw [List.length_range]; exact h), List.getElem_range]
    have e : atB m i = m[i] := by
      unfold atB
      rw [List.getD_eq_getElem?_getD, List.getElem?_eq_getElem h]
      rfl
    show some (D.tup [.int (i : Nat), encB m[i]]) = some (D.tup [.int (i : Nat), encB (atB m i)])
    rw [e]
  · rw [List.getElem?_eq_none (by omega), List.getElem?_eq_none (by rw [List.length_range]; omega)]
    rfl
/-- the slots of way_from -/
def wenv (dl dm : D) (e : Int) (M W : List (Nat × Nat)) (x4 : Sl) (w : Way) (s9 s10 s11 s12 s13 s14 : Sl) : Ev := [.va dl, .va dm, .va (.int e), .va (encM M), x4, .va (encM W), .oK (kN w.came) (vN encW w.came), .ol (w.que.map encW), .ol (w.lot.map encI), s9, s10, s11, s12, s13, s14]
def Small (w : Way) (k : Nat) : Prop := w.came.length + k < 1000 ∧ w.que.length + k < 1000 ∧ w.lot.length + k < 1000
theorem setN_len {ι : Type} (p : List (Nat × ι)) (k : Nat) (v : ι) : (setN p k v).length ≤ p.length + 1 := by
  unfold setN
  split
  · simp
  · simp
theorem forL_nx {g : MG} {ms : MS} {d : D} {ds : List D} {env env1 env2 : Ev} {b b2 : Bag} (h1 : g d env = some env1) (h2 : ms env1 b = .nx env2 b2) : forL g ms (d :: ds) env b = forL g ms ds env2 b2 := by
  rw [forL, h1]; dsimp only; rw [h2]
theorem forL_ct {g : MG} {ms : MS} {d : D} {ds : List D} {env env1 env2 : Ev} {b b2 : Bag} (h1 : g d env = some env1) (h2 : ms env1 b = .ct env2 b2) : forL g ms (d :: ds) env b = forL g ms ds env2 b2 := by
  rw [forL, h1]; dsimp only; rw [h2]
theorem forL_rt {g : MG} {ms : MS} {d r : D} {ds : List D} {env env1 : Ev} {b b2 : Bag} (h1 : g d env = some env1) (h2 : ms env1 b = .rt r b2) : forL g ms (d :: ds) env b = .rt r b2 := by
  rw [forL, h1]; dsimp only; rw [h2]
theorem whl_nx {t : MT} {ms : MS} {n : Nat} {env env2 : Ev} {b b2 b3 : Bag} (h1 : t env b = .ok true b2) (h2 : ms env b2 = .nx env2 b3) : whl t ms (n + 1) env b = whl t ms n env2 b3 := by
  rw [whl, h1]; dsimp only; rw [h2]
theorem whl_rt {t : MT} {ms : MS} {n : Nat} {env : Ev} {r : D} {b b2 b3 : Bag} (h1 : t env b = .ok true b2) (h2 : ms env b2 = .rt r b3) : whl t ms (n + 1) env b = .rt r b3 := by
  rw [whl, h1]; dsimp only; rw [h2]
theorem whl_end {t : MT} {ms : MS} {n : Nat} {env : Ev} {b b2 : Bag} (h1 : t env b = .ok false b2) : whl t ms (n + 1) env b = .nx env b2 := by
  rw [whl, h1]
abbrev wayG : MG := gTp (gCn (gNm 11) (gCn (gNm 12) gNl))
def wayD (m : List Br) (js : List Nat) : List D := js.map fun j => D.tup [encI j, encB (atB m j)]
theorem way_inner {l m : List Br} {e : Int} {M W : List (Nat × Nat)} {x : Nat} {a : Option Nat} {dl dm : D} {x4 : Sl} {b : Bag} (hl : IsBars dl l) (hx : x < l.length) (hWl : ∀ j y, lookN W j = some y → y < l.length ∧ (lookN M y).isSome = true) :
    ∀ (js : List Nat) (w : Way) (s11 s12 s13 s14 : Sl) (R : Sum (List (Nat × Nat)) Way), Small w js.length → wayI l m e M W x a js w = some R →
      (∀ r, R = .inl r → forL wayG wayS (wayD m js) (wenv dl dm e M W x4 w (.va (encI x)) (.va (encO a)) s11 s12 s13 s14) b = .rt (.tup [encM r, .non]) b) ∧
      (∀ w', R = .inr w' → ∃ s11' s12' s13' s14', forL wayG wayS (wayD m js) (wenv dl dm e M W x4 w (.va (encI x)) (.va (encO a)) s11 s12 s13 s14) b = .nx (wenv dl dm e M W x4 w' (.va (encI x)) (.va (encO a)) s11' s12' s13' s14') b ∧ w'.came.length ≤ w.came.length + js.length ∧ w'.que.length ≤ w.que.length + js.length ∧ w'.lot.length ≤ w.lot.length + js.length)
  | [], w, s11, s12, s13, s14, R, hz, h => by
    cases h
    refine ⟨fun r h => (by cases h), fun w' h => ?_⟩
    cases h
    exact ⟨s11, s12, s13, s14, rfl, by simp, by simp, by simp⟩
  | j :: js, w, s11, s12, s13, s14, R, hz, h => by
    have hz1 : Small w (js.length + 1) := hz
    obtain ⟨z1, z2, z3⟩ := hz1
    rw [wayI] at h
    by_cases hs : (lookN w.came j).isSome = true ∨ fitB e (atB l x) (atB m j) = false
    · rw [if_pos hs] at h
      have ih := way_inner hl hx hWl js w (.va (encI j)) (.va (encB (atB m j))) s13 s14 R ⟨by omega, by omega, by omega⟩ h (x4 := x4) (dm := dm) (b := b)
      have st := way_skip (b := b) (dm := dm) (M := M) (W := W) (x4 := x4) (s13 := s13) (s14 := s14) (a := a) (w := w) (m := m) hl hx hs
      have st := forL_ct (g := wayG) (d := .tup [encI j, encB (atB m j)]) (ds := wayD m js) (env := wenv dl dm e M W x4 w (.va (encI x)) (.va (encO a)) s11 s12 s13 s14) rfl st
      refine ⟨fun r hr => st.trans (ih.1 r hr), fun w' hw => ?_⟩
      obtain ⟨a1, a2, a3, a4, e1, l1, l2, l3⟩ := ih.2 w' hw
      exact ⟨a1, a2, a3, a4, st.trans e1, by simp; omega, by simp; omega, by simp; omega⟩
    · rw [if_neg hs] at h
      dsimp only at h
      have hc : (lookN w.came j).isSome = false := by
        cases hh : (lookN w.came j).isSome with
        | false => rfl
        | true => exact absurd (.inl hh) hs
      have hf : fitB e (atB l x) (atB m j) = true := by
        cases hh : fitB e (atB l x) (atB m j) with
        | true => rfl
        | false => exact absurd (.inr hh) hs
      cases hW : lookN W j with
      | none =>
        rw [hW] at h
        dsimp only at h
        cases hb : backF (setN w.came j (x, a)) 99 M (some j) with
        | none => rw [hb] at h; cases h
        | some r =>
          rw [hb] at h
          cases h
          have st := way_free (b := b) (dm := dm) (M := M) (W := W) (x4 := x4) (s13 := s13) (s14 := s14) (a := a) (w := w) (m := m) hl hx hc hf hW (by omega) hb
          have st := forL_rt (g := wayG) (d := .tup [encI j, encB (atB m j)]) (ds := wayD m js) (env := wenv dl dm e M W x4 w (.va (encI x)) (.va (encO a)) s11 s12 s13 s14) rfl st
          refine ⟨fun r' hr => ?_, fun w' hw => (by cases hw)⟩
          cases hr
          exact st
      | some y =>
        rw [hW] at h
        dsimp only at h
        obtain ⟨hy, hM⟩ := hWl j y hW
        by_cases hlo : longB e (atB l y) = false
        · rw [if_pos hlo] at h
          cases hb : backF (setN w.came j (x, a)) 99 (dropN M y) (some j) with
          | none => rw [hb] at h; cases h
          | some r =>
            rw [hb] at h
            cases h
            have st := way_lone (b := b) (dm := dm) (M := M) (W := W) (x4 := x4) (s13 := s13) (s14 := s14) (a := a) (w := w) (m := m) hl hx hy hc hf hW hlo hM (by omega) hb
            have st := forL_rt (g := wayG) (d := .tup [encI j, encB (atB m j)]) (ds := wayD m js) (env := wenv dl dm e M W x4 w (.va (encI x)) (.va (encO a)) s11 s12 s13 s14) rfl st
            refine ⟨fun r' hr => ?_, fun w' hw => (by cases hw)⟩
            cases hr
            exact st
        · rw [if_neg hlo] at h
          have hlo : longB e (atB l y) = true := by
            cases hh : longB e (atB l y) with
            | true => rfl
            | false => exact absurd hh hlo
          have zc := setN_len w.came j (x, a)
          have st := way_on (b := b) (dm := dm) (M := M) (W := W) (x4 := x4) (s13 := s13) (s14 := s14) (a := a) (w := w) (m := m) hl hx hy hc hf hW hlo (by omega) (by omega) (by omega)
          have st := forL_nx (g := wayG) (d := .tup [encI j, encB (atB m j)]) (ds := wayD m js) (env := wenv dl dm e M W x4 w (.va (encI x)) (.va (encO a)) s11 s12 s13 s14) rfl st
          have ih := way_inner hl hx hWl js ⟨setN w.came j (x, a), w.que ++ [(y, some j)], w.lot ++ [y]⟩ (.va (encI j)) (.va (encB (atB m j))) (.va (encI y)) s14 R ⟨by dsimp only; omega, by simp; omega, by simp; omega⟩ h (x4 := x4) (dm := dm) (b := b)
          refine ⟨fun r hr => st.trans (ih.1 r hr), fun w' hw => ?_⟩
          obtain ⟨a1, a2, a3, a4, e1, l1, l2, l3⟩ := ih.2 w' hw
          simp only [List.length_append, List.length_cons, List.length_nil] at l1 l2 l3 ⊢
          exact ⟨a1, a2, a3, a4, st.trans e1, by omega, by omega, by omega⟩

theorem enA_bars {dm : D} {m : List Br} {b : Bag} (h : IsBars dm m) (hz : m.length ≤ 1000) : enAK dm b = .ok (wayD m (List.range m.length)) b := by
  unfold wayD
  rw [← enum_range]
  have z : (m.map encB).length ≤ 100000 := by simp; omega
  rcases h with rfl | rfl
  · simp [enAK, seqD]
  · simp [enAK, seqD]
@[simp] theorem e_enumA {ma : ME} {env : Ev} {b : Bag} : mEnumA ma env b = (ma env b).bind enAK := rfl
@[simp] theorem e_items {ma : ME} {env : Ev} {b : Bag} : mItems ma env b = (ma env b).bind itK := rfl
@[simp] theorem e_itK {ks : List Key} {ds : List D} {b : Bag} : itK (.dK ks ds) b = .ok (itemsD ks ds) b := rfl
theorem items_N {ι : Type} (enc : ι → D) : ∀ p : List (Nat × ι), itemsD (kN p) (vN enc p) = p.map fun x => D.tup [encI x.1, enc x.2]
  | [] => rfl
  | x :: p => by
    have ih := items_N enc p
    unfold itemsD kN vN at ih ⊢
    rw [List.map_cons, List.map_cons, List.zipWith_cons_cons, ih]
    rfl
/-- turned about -/
def turnN (p : List (Nat × Nat)) : List (Nat × Nat) := p.foldl (fun q x => setN q x.2 x.1) []
theorem dc_turn {g : MG} {kl el : ME} {env : Ev} {b : Bag} : ∀ (p : List (Nat × Nat)) (q : List (Nat × Nat)), (∀ x ∈ p, ∃ env1, g (D.tup [encI x.1, encI x.2]) env = some env1 ∧ kl env1 b = .ok (encI x.2) b ∧ el env1 b = .ok (encI x.1) b) →
    dcL g mYes kl el env (p.map fun x => D.tup [encI x.1, encI x.2]) (kN q) (vN encI q) b = .ok (kN (p.foldl (fun q x => setN q x.2 x.1) q), vN encI (p.foldl (fun q x => setN q x.2 x.1) q)) b
  | [], q, _ => rfl
  | x :: p, q, h => by
    obtain ⟨env1, h1, h2, h3⟩ := h x List.mem_cons_self
    rw [List.map_cons]
    unfold dcL
    rw [h1]
    dsimp only
    simp only [e_yes, R.sq_ok, if_true, h2, h3, encI]
    show dcL g mYes kl el env _ (putKs (kN q) (kOf x.2)) (putDs (kN q) (vN encI q) (kOf x.2) (D.int (x.1 : Nat))) b = _
    rw [putKs_N q x.2 x.1]
    rw [show D.int (x.1 : Nat) = encI x.1 from rfl, putDs_N encI q x.2 x.1]
    exact dc_turn p _ fun y hy => h y (List.mem_cons_of_mem _ hy)
def wayB : MS := (sSeq (sPop0 7 (gTp (gCn (gNm 9) (gCn (gNm 10) gNl)))) (sFor (mEnumA (mVar 1)) wayG wayS))
def wayT : MT := (mT (m2 gtG (mB lenG (mCons (mOwn 7) mNil)) (mC (.int 0))))
/-- what stays small -/
structure WayZ (m : List Br) (w : Way) : Prop where
  c : w.came.length ≤ 900
  q : w.que.length ≤ 900
  l : w.lot.length ≤ 900
@[simp] theorem e_pop0 {i : Nat} {g : MG} {env : Ev} {b : Bag} : sPop0 i g env b = pop0K g env i b env[i]? := rfl
@[simp] theorem e_pop0K {i : Nat} {g : MG} {env : Ev} {b : Bag} {d : D} {ds : List D} : pop0K g env i b (some (.ol (d :: ds))) = asgK b (g d (env.set i (.ol ds))) := rfl
/-- the walk, as long as all stays small -/
def wayQz (l m : List Br) (e : Int) (M W : List (Nat × Nat)) : Nat → Way → Option (Sum (List (Nat × Nat)) (List Nat))
  | _, ⟨_, [], lot⟩ => some (.inr lot)
  | 0, _ => none
  | n + 1, ⟨came, (x, a) :: que, lot⟩ => if came.length ≤ 500 ∧ que.length ≤ 500 ∧ lot.length ≤ 500 ∧ x < l.length then match wayI l m e M W x a (List.range m.length) ⟨came, que, lot⟩ with
    | none => none
    | some (.inl f) => some (.inl f)
    | some (.inr w) => wayQz l m e M W n w else none
theorem way_outer {l m : List Br} {e : Int} {M W : List (Nat × Nat)} {dl dm : D} {x4 : Sl} {b : Bag} (hl : IsBars dl l) (hm : IsBars dm m) (hz : m.length ≤ 100) (hWl : ∀ j y, lookN W j = some y → y < l.length ∧ (lookN M y).isSome = true) :
    ∀ (n : Nat) (w : Way) (s9 s10 s11 s12 s13 s14 : Sl) (R : Sum (List (Nat × Nat)) (List Nat)), wayQz l m e M W n w = some R →
      (∀ r, R = .inl r → whl wayT wayB (n + 1) (wenv dl dm e M W x4 w s9 s10 s11 s12 s13 s14) b = .rt (.tup [encM r, .non]) b) ∧
      (∀ L, R = .inr L → ∃ w' s9' s10' s11' s12' s13' s14', w'.lot = L ∧ whl wayT wayB (n + 1) (wenv dl dm e M W x4 w s9 s10 s11 s12 s13 s14) b = .nx (wenv dl dm e M W x4 w' s9' s10' s11' s12' s13' s14') b)
  | n, ⟨came, [], lot⟩, s9, s10, s11, s12, s13, s14, R, h => by
    have h : some (Sum.inr lot) = some R := by cases n <;> exact h
    cases h
    refine ⟨fun r hr => (by cases hr), fun L hL => ?_⟩
    cases hL
    refine ⟨⟨came, [], lot⟩, s9, s10, s11, s12, s13, s14, rfl, whl_end ?_⟩
    simp [wayT, wenv]
  | 0, ⟨came, (x, a) :: que, lot⟩, s9, s10, s11, s12, s13, s14, R, h => by cases h
  | n + 1, ⟨came, (x, a) :: que, lot⟩, s9, s10, s11, s12, s13, s14, R, h => by
    rw [wayQz] at h
    split at h
    rotate_left
    · cases h
    rename_i hc
    obtain ⟨c1, c2, c3, hx⟩ := hc
    have ht : wayT (wenv dl dm e M W x4 ⟨came, (x, a) :: que, lot⟩ s9 s10 s11 s12 s13 s14) b = .ok true b := by
      simp [wayT, wenv]
    have hsm : Small (⟨came, que, lot⟩ : Way) (List.range m.length).length := by
      rw [List.length_range]
      exact ⟨by dsimp only; omega, by dsimp only; omega, by dsimp only; omega⟩
    have hb : wayB (wenv dl dm e M W x4 ⟨came, (x, a) :: que, lot⟩ s9 s10 s11 s12 s13 s14) b = forL wayG wayS (wayD m (List.range m.length)) (wenv dl dm e M W x4 ⟨came, que, lot⟩ (.va (encI x)) (.va (encO a)) s11 s12 s13 s14) b := by
      have := enA_bars (b := b) hm (by omega)
      simp [wayB, wenv, encW, this]
    cases hI : wayI l m e M W x a (List.range m.length) ⟨came, que, lot⟩ with
    | none => rw [hI] at h; cases h
    | some R1 =>
      rw [hI] at h
      have wi := way_inner (b := b) (dm := dm) (x4 := x4) hl hx hWl (List.range m.length) ⟨came, que, lot⟩ s11 s12 s13 s14 R1 hsm hI
      cases R1 with
      | inl f =>
        cases h
        refine ⟨fun r hr => ?_, fun L hL => (by cases hL)⟩
        cases hr
        exact whl_rt ht (hb.trans (wi.1 f rfl))
      | inr w1 =>
        have h : wayQz l m e M W n w1 = some R := h
        obtain ⟨t11, t12, t13, t14, e1, _⟩ := wi.2 w1 rfl
        have ih := way_outer (b := b) (x4 := x4) hl hm hz hWl n w1 (.va (encI x)) (.va (encO a)) t11 t12 t13 t14 R h
        have st := whl_nx (n := n + 1) ht (hb.trans e1)
        refine ⟨fun r hr => st.trans (ih.1 r hr), fun L hL => ?_⟩
        obtain ⟨w', a9, a10, a11, a12, a13, a14, e2, e3⟩ := ih.2 L hL
        exact ⟨w', a9, a10, a11, a12, a13, a14, e2, st.trans e3⟩
theorem ints_map (ns : List Int) : intsD (ns.map D.int) = some ns := by
  induction ns with
  | nil => rfl
  | cons q qs ih =>
    rw [List.map_cons]
    show (intsD (qs.map D.int)).map _ = _
    rw [ih]
    rfl
/-- the numbers, ascending -/
def sortN (ns : List Nat) : List Nat := (sortI (ns.map fun i : Nat => (i : Int))).map Int.toNat
theorem sortN_int (ns : List Nat) : sortI (ns.map fun i : Nat => (i : Int)) = (sortN ns).map fun i : Nat => (i : Int) := by
  unfold sortN
  rw [List.map_map]
  refine ((List.map_id _).symm.trans (List.map_congr_left fun x hx => ?_))
  have hx := (sortI_perm _).mem_iff.mp hx
  obtain ⟨i, _, rfl⟩ := List.mem_map.mp hx
  rfl
theorem o_sortN (ns : List Nat) : sortedIG [.lst (ns.map encI)] = some (.lst ((sortN ns).map encI)) := by
  have e : ns.map encI = (ns.map fun i : Nat => (i : Int)).map D.int := by rw [List.map_map]; rfl
  show (intsD _).map _ = _
  rw [e, ints_map]
  show some (D.lst ((sortI _).map D.int)) = _
  rw [sortN_int, List.map_map]
  rfl
/-- the plain way_from -/
def wayF (l m : List Br) (e : Int) (M : List (Nat × Nat)) (x : Nat) : Option (Sum (List (Nat × Nat)) (List Nat)) :=
  (wayQz l m e M (turnN M) 99 ⟨[], [(x, none)], [x]⟩).map fun R => match R with
    | .inl f => .inl f
    | .inr L => .inr (sortN L)
def encR : Sum (List (Nat × Nat)) (List Nat) → D
  | .inl f => .tup [encM f, .non]
  | .inr L => .tup [.non, .tup (L.map encI)]
set_option maxHeartbeats 1000000 in
theorem v_way_from {l m : List Br} {e : Int} {M : List (Nat × Nat)} {dl dm : D} {x : Nat} {b : Bag} {R : Sum (List (Nat × Nat)) (List Nat)} (hl : IsBars dl l) (hm : IsBars dm m) (hz : m.length ≤ 100) (hM : M.length ≤ 1000) (hWl : ∀ j y, lookN (turnN M) j = some y → y < l.length ∧ (lookN M y).isSome = true)
    (h : wayF l m e M x = some R) : fm_way_from [dl, dm, .int e, encM M, encI x] b = .ok (encR R) b := by
  unfold wayF at h
  simp only [Option.map_eq_some_iff] at h
  obtain ⟨R0, h0, h1⟩ := h
  have wo := way_outer (b := b) (x4 := .va (encI x)) hl hm hz hWl 99 ⟨[], [(x, none)], [x]⟩ .un .un .un .un .un .un R0 h0
  have dc := dc_turn (g := gTp (gCn (gNm 9) (gCn (gNm 11) gNl))) (kl := mVar 11) (el := mVar 9) (env := [.va dl, .va dm, .va (.int e), .va (encM M), .va (encI x), .un, .un, .un, .un, .un, .un, .un, .un, .un, .un]) (b := b) M [] fun y hy => ⟨_, rfl, rfl, rfl⟩
  have z : M.length ≤ 100000 := by omega
  have hd : itemsD (kN M) (vN encI M) = _ := items_N encI M
  have hk : kN ([] : List (Nat × Nat)) = [] := rfl
  have hv : vN encI ([] : List (Nat × Nat)) = [] := rfl
  have hk2 : kN ([] : Came) = [] := rfl
  have hv2 : vN encW ([] : Came) = [] := rfl
  rw [hk, hv] at dc
  change dcL _ mYes _ _ _ _ [] [] b = .ok (kN (turnN M), vN encI (turnN M)) b at dc
  unfold wenv wayT wayB wayS wayG at wo
  simp only [hk2, hv2, encI, encM] at wo dc hd ⊢
  simp only [fm_way_from, e_fnM, ms_way_from]
  simp [hd, dc, z]
  cases R0 with
  | inl f =>
    have w1 := wo.1 f rfl
    simp [encW, encO] at w1
    cases h1
    simp [w1, encR, encM]
  | inr L =>
    obtain ⟨w', s9, s10, s11, s12, s13, s14, hL, w1⟩ := wo.2 L rfl
    simp [encW, encO] at w1
    cases h1
    subst hL
    have hs := o_sortN w'.lot
    simp [w1, encR, hs]

section
variable {ι : Type}
theorem look_mem : ∀ {p : List (Nat × ι)} {k : Nat} {v : ι}, lookN p k = some v → (k, v) ∈ p
  | [], _, _, h => by cases h
  | x :: p, k, v, h => by
    rw [lookN] at h
    split at h
    · rename_i hx
      cases h
      subst hx
      exact List.mem_cons_self
    · exact List.mem_cons_of_mem _ (look_mem h)
theorem mem_look : ∀ {p : List (Nat × ι)} {k : Nat} {v : ι}, (p.map (·.1)).Nodup → (k, v) ∈ p → lookN p k = some v
  | [], _, _, _, h => by simp at h
  | x :: p, k, v, hn, h => by
    rw [List.map_cons, List.nodup_cons] at hn
    rw [lookN]
    rcases List.mem_cons.mp h with rfl | h
    · rw [if_pos rfl]
    · rw [if_neg (fun z => hn.1 (List.mem_map.mpr ⟨(k, v), h, z.symm⟩)), mem_look hn.2 h]
theorem look_keys {p : List (Nat × ι)} {k : Nat} : (lookN p k).isSome = true ↔ k ∈ p.map (·.1) := by
  induction p with
  | nil => simp [lookN]
  | cons x p ih =>
    rw [lookN, List.map_cons, List.mem_cons]
    split
    · rename_i h; simp [h]
    · rename_i h
      rw [ih]
      constructor
      · exact .inr
      · rintro (z | z)
        · exact absurd z.symm h
        · exact z
theorem look_none {p : List (Nat × ι)} {k : Nat} : lookN p k = none ↔ k ∉ p.map (·.1) := by
  rw [← look_keys]
  cases lookN p k <;> simp
theorem look_app {p q : List (Nat × ι)} {k : Nat} : lookN (p ++ q) k = (lookN p k).or (lookN q k) := by
  induction p with
  | nil => rfl
  | cons x p ih =>
    rw [List.cons_append, lookN, lookN]
    split
    · rfl
    · exact ih
theorem look_drop {p : List (Nat × ι)} {k j : Nat} : lookN (dropN p k) j = if j = k then none else lookN p j := by
  unfold dropN
  induction p with
  | nil => simp [lookN]
  | cons x p ih =>
    by_cases hx : x.1 = k
    · rw [List.filter_cons_of_neg (by simp [hx]), ih, lookN]
      by_cases hj : j = k
      · rw [if_pos hj, if_pos hj]
      · rw [if_neg hj, if_neg hj, if_neg (by omega)]
    · rw [List.filter_cons_of_pos (by simp [hx]), lookN, lookN, ih]
      by_cases hj : j = k
      · rw [if_pos hj, if_pos hj, if_neg (by omega)]
      · rw [if_neg hj, if_neg hj]
theorem setN_nd {p : List (Nat × ι)} (h : (p.map (·.1)).Nodup) (k : Nat) (v : ι) : ((setN p k v).map (·.1)).Nodup := by
  unfold setN
  split
  · rw [List.map_map]
    have : p.map ((·.1) ∘ fun x => if x.1 = k then (x.1, v) else x) = p.map (·.1) := List.map_congr_left fun x _ => by
      show (if x.1 = k then (x.1, v) else x).1 = x.1
      split <;> rfl
    rw [this]; exact h
  · rename_i hk
    rw [List.map_append, List.nodup_append]
    refine ⟨h, by simp, fun a ha c hc => ?_⟩
    simp at hc
    subst hc
    exact fun z => hk (z ▸ ha)
theorem dropN_nd {p : List (Nat × ι)} (h : (p.map (·.1)).Nodup) (k : Nat) : ((dropN p k).map (·.1)).Nodup := h.sublist ((List.filter_sublist).map _)
theorem setN_new {p : List (Nat × ι)} {k : Nat} {v : ι} (h : lookN p k = none) : setN p k v = p ++ [(k, v)] := if_neg (look_none.mp h)
theorem keys_len {p : List (Nat × ι)} {n : Nat} (h : (p.map (·.1)).Nodup) (hk : ∀ k ∈ p.map (·.1), k < n) : p.length ≤ n := by
  have := h.length_le_of_subset (l₂ := List.range n) fun k z => List.mem_range.mpr (hk k z)
  simpa using this
end
/-- a matching: here -> there -/
structure Mt (l m : List Br) (e : Int) (M : List (Nat × Nat)) : Prop where
  nd : (M.map (·.1)).Nodup
  ok : ∀ h t, lookN M h = some t → h < l.length ∧ t < m.length ∧ fitB e (atB l h) (atB m t) = true
  inj : ∀ h h' t, lookN M h = some t → lookN M h' = some t → h = h'
theorem Mt.len {l m : List Br} {e : Int} {M : List (Nat × Nat)} (h : Mt l m e M) : M.length ≤ l.length := keys_len h.nd fun k hk => by
  have := look_keys.mpr hk
  cases hv : lookN M k with
  | none => rw [hv] at this; cases this
  | some v => exact (h.ok k v hv).1
theorem Mt.nil {l m : List Br} {e : Int} : Mt l m e [] := ⟨by simp, fun _ _ h => (by cases h), fun _ _ _ h => (by cases h)⟩
theorem Mt.set {l m : List Br} {e : Int} {M : List (Nat × Nat)} (h : Mt l m e M) {x u : Nat} (hx : x < l.length) (hu : u < m.length) (hf : fitB e (atB l x) (atB m u) = true) (nu : ∀ k, lookN M k ≠ some u) : Mt l m e (setN M x u) := by
  refine ⟨setN_nd h.nd _ _, fun k t e1 => ?_, fun k k' t e1 e2 => ?_⟩
  · rw [look_set] at e1
    split at e1
    · rename_i z
      cases e1
      subst z
      exact ⟨hx, hu, hf⟩
    · exact h.ok k t e1
  · rw [look_set] at e1 e2
    split at e1
    · rename_i z1
      cases e1
      split at e2
      · rename_i z2; omega
      · exact absurd e2 (nu k')
    · split at e2
      · rename_i z2
        cases e2
        exact absurd e1 (nu k)
      · exact h.inj k k' t e1 e2
theorem Mt.drop {l m : List Br} {e : Int} {M : List (Nat × Nat)} (h : Mt l m e M) (y : Nat) : Mt l m e (dropN M y) := by
  refine ⟨dropN_nd h.nd _, fun k t e1 => ?_, fun k k' t e1 e2 => ?_⟩
  · rw [look_drop] at e1
    split at e1
    · cases e1
    · exact h.ok k t e1
  · rw [look_drop] at e1 e2
    split at e1
    · cases e1
    · split at e2
      · cases e2
      · exact h.inj k k' t e1 e2
/-- turned about -/
theorem turn_fold : ∀ (p q : List (Nat × Nat)), (p.map (·.2)).Nodup → (∀ x ∈ p, lookN (p.foldl (fun q x => setN q x.2 x.1) q) x.2 = some x.1) ∧ (∀ j, j ∉ p.map (·.2) → lookN (p.foldl (fun q x => setN q x.2 x.1) q) j = lookN q j)
  | [], q, _ => ⟨fun x h => by simp at h, fun j _ => rfl⟩
  | x :: p, q, h => by
    rw [List.map_cons, List.nodup_cons] at h
    obtain ⟨ih1, ih2⟩ := turn_fold p (setN q x.2 x.1) h.2
    refine ⟨fun y hy => ?_, fun j hj => ?_⟩
    · rw [List.foldl_cons]
      rcases List.mem_cons.mp hy with rfl | hy
      · rw [ih2 _ h.1, look_set, if_pos rfl]
      · exact ih1 y hy
    · rw [List.map_cons, List.mem_cons] at hj
      rw [List.foldl_cons, ih2 j (fun z => hj (.inr z)), look_set, if_neg (fun z => hj (.inl z))]
theorem turn_nd : ∀ (p q : List (Nat × Nat)), (q.map (·.1)).Nodup → ((p.foldl (fun q x => setN q x.2 x.1) q).map (·.1)).Nodup
  | [], q, h => h
  | x :: p, q, h => turn_nd p _ (setN_nd h _ _)
theorem Mt.vals {l m : List Br} {e : Int} {M : List (Nat × Nat)} (h : Mt l m e M) : (M.map (·.2)).Nodup := by
  have h1 : M.Nodup := by
    have := h.nd
    unfold List.Nodup at this ⊢
    rw [List.pairwise_map] at this
    exact this.imp fun ne z => ne (congrArg _ z)
  unfold List.Nodup
  rw [List.pairwise_map]
  refine (List.Pairwise.and_mem.mp h1).imp fun {a c} hac z => ?_
  have e1 := mem_look h.nd (k := a.1) (v := a.2) hac.1
  have e2 := mem_look h.nd (k := c.1) (v := c.2) hac.2.1
  rw [← z] at e2
  exact hac.2.2 (Prod.ext (h.inj _ _ _ e1 e2) z)
theorem look_turn {l m : List Br} {e : Int} {M : List (Nat × Nat)} (h : Mt l m e M) {j y : Nat} : lookN (turnN M) j = some y ↔ lookN M y = some j := by
  obtain ⟨h1, h2⟩ := turn_fold M [] h.vals
  constructor
  · intro z
    by_cases hj : j ∈ M.map (·.2)
    · obtain ⟨x, hx, rfl⟩ := List.mem_map.mp hj
      have := h1 x hx
      have z : lookN (M.foldl (fun q x => setN q x.2 x.1) []) x.2 = some y := z
      rw [this] at z
      cases z
      exact mem_look h.nd hx
    · have z : lookN (M.foldl (fun q x => setN q x.2 x.1) []) j = some y := z
      rw [h2 j hj] at z
      cases z
  · intro z
    exact h1 (y, j) (look_mem z)
theorem fitB_comm (e : Int) (x y : Br) : fitB e x y = fitB e y x := by
  have ha : ∀ a c : Int, absI (a - c) = absI (c - a) := fun a c => by unfold absI; split <;> split <;> omega
  unfold fitB
  rw [ha x.1 y.1]
  obtain ⟨x1, x2⟩ := x
  obtain ⟨y1, y2⟩ := y
  cases x2 <;> cases y2 <;> simp
  rename_i g h
  rw [ha g h]
theorem Mt.turn {l m : List Br} {e : Int} {M : List (Nat × Nat)} (h : Mt l m e M) : Mt m l e (turnN M) := by
  refine ⟨turn_nd M [] (by simp), fun k t e1 => ?_, fun k k' t e1 e2 => ?_⟩
  · have := h.ok _ _ ((look_turn h).mp e1)
    exact ⟨this.2.1, this.1, by rw [fitB_comm]; exact this.2.2⟩
  · have e1 := (look_turn h).mp e1
    have e2 := (look_turn h).mp e2
    rw [e1] at e2
    exact Option.some.inj e2

/-! ### the law of way_from -/
section
variable {l m : List Br} {e : Int} {M : List (Nat × Nat)} {x0 : Nat}
/-- how one came there -/
def StepOk (M : List (Nat × Nat)) (x0 : Nat) (c : Came) (x : Nat) (a : Option Nat) : Prop := (a = none ∧ x = x0) ∨ ∃ v, a = some v ∧ (lookN c v).isSome = true ∧ lookN M x = some v
inductive CameOk (l m : List Br) (e : Int) (M : List (Nat × Nat)) (x0 : Nat) : Came → Prop
  | nil : CameOk l m e M x0 []
  | snoc {c : Came} {u x : Nat} {a : Option Nat} (h : CameOk l m e M x0 c) (hn : lookN c u = none) (hf : fitB e (atB l x) (atB m u) = true) (hx : x < l.length) (hu : u < m.length) (hs : StepOk M x0 c x a) : CameOk l m e M x0 (c ++ [(u, (x, a))])
theorem CameOk.nd {c : Came} (h : CameOk l m e M x0 c) : (c.map (·.1)).Nodup := by
  induction h with
  | nil => simp
  | snoc h hn hf hx hu hs ih =>
    rw [List.map_append, List.nodup_append]
    refine ⟨ih, by simp, fun a ha c hc => ?_⟩
    simp at hc
    subst hc
    exact fun z => look_none.mp hn (z ▸ ha)
theorem CameOk.lt {c : Came} (h : CameOk l m e M x0 c) : ∀ k ∈ c.map (·.1), k < m.length := by
  induction h with
  | nil => simp
  | snoc h hn hf hx hu hs ih =>
    intro k hk
    rw [List.map_append, List.mem_append] at hk
    rcases hk with hk | hk
    · exact ih k hk
    · simp at hk
      omega
theorem CameOk.len {c : Came} (h : CameOk l m e M x0 c) : c.length ≤ m.length := keys_len h.nd h.lt
theorem back_ok (hl : l.length ≤ 100) (full : Came) : ∀ {c : Came}, CameOk l m e M x0 c → (∀ u w, lookN c u = some w → lookN full u = some w) → ∀ (f : List (Nat × Nat)) (u x : Nat) (a : Option Nat), Mt l m e f → (∀ h, lookN f h ≠ some u) → lookN f x0 = none → lookN full u = some (x, a) → x < l.length → u < m.length → fitB e (atB l x) (atB m u) = true → StepOk M x0 c x a → (∀ y v, lookN M y = some v → (lookN c v).isSome = true → lookN f y = some v) →
    ∃ r, (∀ n, c.length + 1 ≤ n → backF full n f (some u) = some r) ∧ Mt l m e r ∧ (∀ h, (lookN r h).isSome = true ↔ (lookN f h).isSome = true ∨ h = x0) ∧ (∀ t, (∃ h, lookN r h = some t) ↔ (∃ h, lookN f h = some t) ∨ t = u) := by
  intro c hc
  induction hc with
  | nil =>
    intro hfull f u x a hm nu fx0 hu hx hul hfit hs _
    rcases hs with ⟨rfl, rfl⟩ | ⟨v, _, h, _⟩
    · refine ⟨setN f x u, fun n hn => ?_, hm.set hx hul hfit nu, fun h => ?_, fun t => ?_⟩
      · obtain ⟨n, rfl⟩ : ∃ k, n = k + 1 := ⟨n - 1, by simp at hn; omega⟩
        rw [backF, hu]
        dsimp only
        rw [if_pos (by have := hm.len; omega)]
        cases n <;> rfl
      · rw [look_set]
        split
        · simp [*]
        · simp [*]
      · constructor
        · rintro ⟨h, e1⟩
          rw [look_set] at e1
          split at e1
          · cases e1; exact .inr rfl
          · exact .inl ⟨h, e1⟩
        · rintro (⟨h, e1⟩ | rfl)
          · refine ⟨h, ?_⟩
            rw [look_set, if_neg (fun z => by rw [z, fx0] at e1; cases e1)]
            exact e1
          · exact ⟨x, by rw [look_set, if_pos rfl]⟩
    · cases h
  | snoc hc hn hfc hxc huc hsc ih =>
    rename_i c u' x' a'
    intro hfull f u x a hm nu fx0 hu hx hul hfit hs hag
    have hfull' : ∀ u w, lookN c u = some w → lookN full u = some w := fun u w h => hfull u w (by rw [look_app, h]; rfl)
    have hag' : ∀ y v, lookN M y = some v → (lookN c v).isSome = true → lookN f y = some v := fun y v h1 h2 => hag y v h1 (by
      rw [look_app]
      cases h : lookN c v with
      | none => rw [h] at h2; cases h2
      | some w => rfl)
    by_cases hdir : StepOk M x0 c x a
    · obtain ⟨r, h1, h2⟩ := ih hfull' f u x a hm nu fx0 hu hx hul hfit hdir hag'
      exact ⟨r, fun n hn => h1 n (by simp at hn; omega), h2⟩
    · -- the step goes back to u'
      rcases hs with h0 | ⟨v, rfl, hv, hMx⟩
      · exact absurd (.inl h0) hdir
      have hvu : v = u' := by
        rw [look_app] at hv
        cases hcv : lookN c v with
        | some w => exact absurd (.inr ⟨v, rfl, by rw [hcv]; rfl, hMx⟩) hdir
        | none =>
          rw [hcv] at hv
          have hv : (lookN [(u', (x', a'))] v).isSome = true := hv
          have := look_keys.mp hv
          simpa using this
      subst hvu
      have hfx : lookN f x = some v := hag x v hMx hv
      have huv : u ≠ v := fun z => nu x (by rw [z]; exact hfx)
      have hxx0 : x ≠ x0 := fun z => by rw [z, fx0] at hfx; cases hfx
      have hm' := hm.set hx hul hfit nu
      have hfu' : lookN full v = some (x', a') := hfull v _ (by
        rw [look_app, hn]
        show lookN [(v, (x', a'))] v = _
        rw [lookN, if_pos rfl])
      obtain ⟨r, h1, h2, h3, h4⟩ := ih hfull' (setN f x u) v x' a' hm' (fun h z => by
        rw [look_set] at z
        split at z
        · cases z; exact huv rfl
        · rename_i hne
          exact hne (hm.inj _ _ _ z hfx)) (by rw [look_set, if_neg (Ne.symm hxx0)]; exact fx0) hfu' hxc huc hfc hsc (fun y w e1 e2 => by
        have hyx : y ≠ x := fun z => by
          subst z
          rw [hMx] at e1
          cases e1
          rw [hn] at e2
          cases e2
        rw [look_set, if_neg hyx]
        exact hag' y w e1 e2)
      refine ⟨r, fun n hn' => ?_, h2, fun h => ?_, fun t => ?_⟩
      · obtain ⟨n, rfl⟩ : ∃ k, n = k + 1 := ⟨n - 1, by simp at hn'; omega⟩
        rw [backF, hu]
        dsimp only
        rw [if_pos (by have := hm.len; omega)]
        exact h1 n (by simp at hn'; omega)
      · rw [h3, look_set]
        split
        · rename_i z
          subst z
          simp [hfx]
        · rfl
      · rw [h4]
        constructor
        · rintro (⟨h, e1⟩ | rfl)
          · rw [look_set] at e1
            split at e1
            · cases e1; exact .inr rfl
            · exact .inl ⟨h, e1⟩
          · exact .inl ⟨x, hfx⟩
        · rintro (⟨h, e1⟩ | rfl)
          · by_cases hh : h = x
            · subst hh
              rw [hfx] at e1
              cases e1
              exact .inr rfl
            · exact .inl ⟨h, by rw [look_set, if_neg hh]; exact e1⟩
          · exact .inl ⟨x, by rw [look_set, if_pos rfl]⟩
end

section
variable {l m : List Br} {e : Int} {M : List (Nat × Nat)} {x0 : Nat}
def hold (M : List (Nat × Nat)) (u : Nat) : Nat := (lookN (turnN M) u).getD 0
def seqW (M : List (Nat × Nat)) (x0 : Nat) (c : Came) : Que := (x0, none) :: c.map fun p => (hold M p.1, some p.1)
/-- a good way out -/
structure GoodF (l m : List Br) (e : Int) (M : List (Nat × Nat)) (x0 : Nat) (f : List (Nat × Nat)) : Prop where
  mt : Mt l m e f
  key : (lookN f x0).isSome = true
  long : ∀ h, longB e (atB l h) = true → (lookN M h).isSome = true → (lookN f h).isSome = true
  val : ∀ h t, lookN M h = some t → ∃ h', lookN f h' = some t
structure WOk (l m : List Br) (e : Int) (M : List (Nat × Nat)) (x0 : Nat) (dn : Que) (w : Way) : Prop where
  cm : CameOk l m e M x0 w.came
  sq : seqW M x0 w.came = dn ++ w.que
  lt : w.lot = (seqW M x0 w.came).map (·.1)
  hd : ∀ p ∈ w.came, ∃ y, lookN M y = some p.1 ∧ longB e (atB l y) = true
theorem StepOk.app {c d : Came} {x : Nat} {a : Option Nat} (h : StepOk M x0 c x a) : StepOk M x0 (c ++ d) x a := by
  rcases h with h | ⟨v, h1, h2, h3⟩
  · exact .inl h
  · refine .inr ⟨v, h1, ?_, h3⟩
    rw [look_app]
    cases hc : lookN c v with
    | none => rw [hc] at h2; cases h2
    | some w => rfl
theorem hold_of (hm : Mt l m e M) {y u : Nat} (h : lookN M y = some u) : hold M u = y := by
  unfold hold
  rw [(look_turn hm).mpr h]
  rfl
theorem wayI_ok (hl : l.length ≤ 20) (hml : m.length ≤ 20) (hm : Mt l m e M) (hx0 : lookN M x0 = none) {dn : Que} {x : Nat} {a : Option Nat} (hx : x < l.length) : ∀ (js : List Nat) (w : Way), WOk l m e M x0 dn w → StepOk M x0 w.came x a → (∀ j ∈ js, j < m.length) →
    ∃ R, wayI l m e M (turnN M) x a js w = some R ∧ (∀ f, R = .inl f → GoodF l m e M x0 f) ∧ (∀ w', R = .inr w' → WOk l m e M x0 dn w' ∧ (∀ k, (lookN w.came k).isSome = true → (lookN w'.came k).isSome = true) ∧ ∀ j ∈ js, fitB e (atB l x) (atB m j) = true → (lookN w'.came j).isSome = true)
  | [], w, hw, hs, hj => ⟨.inr w, rfl, fun f h => (by cases h), fun w' h => by
    cases h
    exact ⟨hw, fun k hk => hk, fun j hj => by simp at hj⟩⟩
  | j :: js, w, hw, hs, hj => by
    have hjm := hj j List.mem_cons_self
    have hj' : ∀ i ∈ js, i < m.length := fun i hi => hj i (List.mem_cons_of_mem _ hi)
    rw [wayI]
    by_cases hsk : (lookN w.came j).isSome = true ∨ fitB e (atB l x) (atB m j) = false
    · rw [if_pos hsk]
      obtain ⟨R, h1, h2, h3⟩ := wayI_ok hl hml hm hx0 hx js w hw hs hj'
      refine ⟨R, h1, h2, fun w' h => ?_⟩
      obtain ⟨g1, g2, g3⟩ := h3 w' h
      refine ⟨g1, g2, fun i hi hf => ?_⟩
      rcases List.mem_cons.mp hi with rfl | hi
      · rcases hsk with z | z
        · exact g2 _ z
        · rw [z] at hf; cases hf
      · exact g3 i hi hf
    · rw [if_neg hsk]
      dsimp only
      have hc : lookN w.came j = none := by
        cases hh : lookN w.came j with
        | none => rfl
        | some v => exact absurd (.inl (by rw [hh]; rfl)) hsk
      have hf : fitB e (atB l x) (atB m j) = true := by
        cases hh : fitB e (atB l x) (atB m j) with
        | true => rfl
        | false => exact absurd (.inr hh) hsk
      have hlen := hw.cm.len
      have hset := setN_new (v := (x, a)) hc
      have hfull : ∀ u v, lookN w.came u = some v → lookN (w.came ++ [(j, (x, a))]) u = some v := fun u v h => by rw [look_app, h]; rfl
      have hfj : lookN (w.came ++ [(j, (x, a))]) j = some (x, a) := by
        rw [look_app, hc]
        show lookN [(j, (x, a))] j = _
        rw [lookN, if_pos rfl]
      have hnone : ∀ y v, lookN M y = some v → y ≠ x0 := fun y v h z => by rw [z, hx0] at h; cases h
      cases hW : lookN (turnN M) j with
      | none =>
        dsimp only
        have nu : ∀ h, lookN M h ≠ some j := fun h z => by rw [(look_turn hm).mpr z] at hW; cases hW
        obtain ⟨r, h1, h2, h3, h4⟩ := back_ok (by omega) (w.came ++ [(j, (x, a))]) hw.cm hfull M j x a hm nu hx0 hfj hx hjm hf hs (fun y v h _ => h)
        rw [hset, h1 99 (by omega)]
        refine ⟨_, rfl, fun f h => ?_, fun w' h => (by cases h)⟩
        cases h
        exact ⟨h2, (h3 x0).mpr (.inr rfl), fun h _ hk => (h3 h).mpr (.inl hk), fun h t e1 => (h4 t).mpr (.inl ⟨h, e1⟩)⟩
      | some y =>
        dsimp only
        have hMy := (look_turn hm).mp hW
        have hy := (hm.ok _ _ hMy).1
        by_cases hlo : longB e (atB l y) = false
        · rw [if_pos hlo]
          obtain ⟨r, h1, h2, h3, h4⟩ := back_ok (by omega) (w.came ++ [(j, (x, a))]) hw.cm hfull (dropN M y) j x a (hm.drop y) (fun h z => by
            rw [look_drop] at z
            split at z
            · cases z
            · rename_i hne
              exact hne (hm.inj _ _ _ z hMy)) (by rw [look_drop]; split <;> first | rfl | exact hx0) hfj hx hjm hf hs (fun z v e1 e2 => by
            rw [look_drop, if_neg]
            · exact e1
            · intro hz
              subst hz
              rw [hMy] at e1
              cases e1
              rw [hc] at e2
              cases e2)
          rw [hset, h1 99 (by omega)]
          refine ⟨_, rfl, fun f h => ?_, fun w' h => (by cases h)⟩
          cases h
          refine ⟨h2, (h3 x0).mpr (.inr rfl), fun h hlg hk => (h3 h).mpr (.inl ?_), fun h t e1 => (h4 t).mpr ?_⟩
          · rw [look_drop, if_neg (fun z => by rw [z, hlo] at hlg; cases hlg)]
            exact hk
          · by_cases hh : h = y
            · subst hh
              rw [hMy] at e1
              cases e1
              exact .inr rfl
            · exact .inl ⟨h, by rw [look_drop, if_neg hh]; exact e1⟩
        · rw [if_neg hlo]
          have hlo : longB e (atB l y) = true := by
            cases hh : longB e (atB l y) with
            | true => rfl
            | false => exact absurd hh hlo
          have hseq : seqW M x0 (w.came ++ [(j, (x, a))]) = seqW M x0 w.came ++ [(y, some j)] := by
            unfold seqW
            rw [List.map_append, List.cons_append, List.map_cons, List.map_nil]
            dsimp only
            rw [hold_of hm hMy]
          have hw1 : WOk l m e M x0 dn ⟨setN w.came j (x, a), w.que ++ [(y, some j)], w.lot ++ [y]⟩ := by
            refine ⟨?_, ?_, ?_, ?_⟩
            · rw [hset]; exact .snoc hw.cm hc hf hx hjm hs
            · show seqW M x0 (setN w.came j (x, a)) = dn ++ (w.que ++ [(y, some j)])
              rw [hset, hseq, hw.sq, List.append_assoc]
            · show w.lot ++ [y] = (seqW M x0 (setN w.came j (x, a))).map (·.1)
              rw [hset, hseq, List.map_append, ← hw.lt]
              rfl
            · show ∀ p ∈ setN w.came j (x, a), _
              rw [hset]
              intro p hp
              rcases List.mem_append.mp hp with hp | hp
              · exact hw.hd p hp
              · rw [List.mem_singleton.mp hp]
                exact ⟨y, hMy, hlo⟩
          have hs1 : StepOk M x0 (setN w.came j (x, a)) x a := by rw [hset]; exact hs.app
          obtain ⟨R, h1, h2, h3⟩ := wayI_ok hl hml hm hx0 hx js _ hw1 hs1 hj'
          refine ⟨R, h1, h2, fun w' h => ?_⟩
          obtain ⟨g1, g2, g3⟩ := h3 w' h
          refine ⟨g1, fun k hk => g2 k ?_, fun i hi hf => ?_⟩
          · show (lookN (setN w.came j (x, a)) k).isSome = true
            rw [look_set]
            split
            · rfl
            · exact hk
          · rcases List.mem_cons.mp hi with rfl | hi
            · refine g2 _ ?_
              show (lookN (setN w.came i (x, a)) i).isSome = true
              rw [look_set, if_pos rfl]
              rfl
            · exact g3 i hi hf
/-- all those that were looked at fit what was come to alone -/
def DnOk (l m : List Br) (e : Int) (dn : Que) (c : Came) : Prop := ∀ p ∈ dn, ∀ j, j < m.length → fitB e (atB l p.1) (atB m j) = true → (lookN c j).isSome = true
theorem wayQ_ok (hl : l.length ≤ 20) (hml : m.length ≤ 20) (hm : Mt l m e M) (hx0 : lookN M x0 = none) (hx0l : x0 < l.length) : ∀ (n : Nat) (w : Way) (dn : Que), WOk l m e M x0 dn w → DnOk l m e dn w.came → m.length + 1 ≤ n + dn.length →
    ∃ R, wayQz l m e M (turnN M) n w = some R ∧ (∀ f, R = .inl f → GoodF l m e M x0 f) ∧ (∀ L, R = .inr L → ∃ w' dn', WOk l m e M x0 dn' w' ∧ DnOk l m e dn' w'.came ∧ w'.que = [] ∧ w'.lot = L)
  | n, ⟨came, [], lot⟩, dn, hw, hd, hn => by
    refine ⟨.inr lot, by cases n <;> rfl, fun f h => (by cases h), fun L h => ?_⟩
    cases h
    exact ⟨_, dn, hw, hd, rfl, rfl⟩
  | 0, ⟨came, (x, a) :: que, lot⟩, dn, hw, hd, hn => by
    exfalso
    have := congrArg List.length hw.sq
    have h2 := hw.cm.len
    simp [seqW] at this h2
    omega
  | n + 1, ⟨came, (x, a) :: que, lot⟩, dn, hw, hd, hn => by
    have hlen := hw.cm.len
    have hsl := congrArg List.length hw.sq
    have hll := congrArg List.length hw.lt
    simp [seqW] at hsl hll hlen
    have hmem : (x, a) ∈ seqW M x0 came := by
      have := hw.sq
      dsimp only at this
      rw [this]
      simp
    have hst : StepOk M x0 came x a ∧ x < l.length := by
      unfold seqW at hmem
      rcases List.mem_cons.mp hmem with h | h
      · cases h
        exact ⟨.inl ⟨rfl, rfl⟩, hx0l⟩
      · obtain ⟨p, hp, h⟩ := List.mem_map.mp h
        cases h
        obtain ⟨y, hy, _⟩ := hw.hd p hp
        rw [hold_of hm hy]
        exact ⟨.inr ⟨p.1, rfl, look_keys.mpr (List.mem_map_of_mem hp), hy⟩, (hm.ok _ _ hy).1⟩
    have hw1 : WOk l m e M x0 (dn ++ [(x, a)]) ⟨came, que, lot⟩ := ⟨hw.cm, by
      have := hw.sq
      dsimp only at this ⊢
      rw [this, List.append_assoc]
      rfl, hw.lt, hw.hd⟩
    obtain ⟨R1, h1, h2, h3⟩ := wayI_ok hl hml hm hx0 hst.2 (List.range m.length) ⟨came, que, lot⟩ hw1 hst.1 (fun j hj => List.mem_range.mp hj)
    rw [wayQz, if_pos ⟨by omega, by omega, by omega, hst.2⟩, h1]
    cases R1 with
    | inl f => exact ⟨.inl f, rfl, fun f' h => by cases h; exact h2 f rfl, fun L h => (by cases h)⟩
    | inr w1 =>
      obtain ⟨g1, g2, g3⟩ := h3 w1 rfl
      dsimp only
      refine wayQ_ok hl hml hm hx0 hx0l n w1 _ g1 (fun p hp j hj hf => ?_) (by simp; omega)
      rcases List.mem_append.mp hp with hp | hp
      · exact g2 _ (hd p hp j hj hf)
      · rw [List.mem_singleton.mp hp] at hf
        exact g3 j (List.mem_range.mpr hj) hf
theorem asc_of {ns : List Nat} (h : ns.Pairwise (· < ·)) : ascB ns = true := by
  induction ns with
  | nil => rfl
  | cons a ns ih =>
    cases ns with
    | nil => rfl
    | cons c ns =>
      rw [asc_cons, ih (List.Pairwise.of_cons h)]
      simp
      exact List.rel_of_pairwise_cons h List.mem_cons_self
theorem sortN_perm (ns : List Nat) : (sortN ns).Perm ns := by
  have h := (sortI_perm (ns.map fun i : Nat => (i : Int))).map Int.toNat
  rw [List.map_map] at h
  have e : ns.map (Int.toNat ∘ fun i : Nat => (i : Int)) = ns := (List.map_congr_left fun x _ => rfl).trans (List.map_id ns)
  rw [e] at h
  exact h
theorem sortN_le (ns : List Nat) : (sortN ns).Pairwise (· ≤ ·) := by
  have h := sortI_sorted (ns.map fun i : Nat => (i : Int))
  rw [sortN_int, List.pairwise_map] at h
  exact h.imp fun h => by omega
theorem sortN_asc {ns : List Nat} (h : ns.Nodup) : ascB (sortN ns) = true := by
  have h1 : (sortN ns).Nodup := (sortN_perm ns).nodup_iff.mpr h
  exact asc_of ((List.Pairwise.and h1 (sortN_le ns)).imp fun h => by omega)
theorem atB_map (m : List Br) : (List.range m.length).map (atB m) = m := by
  apply List.ext_getElem?
  intro i
  rw [List.getElem?_map]
  by_cases h : i < m.length
  · rw [List.getElem?_eq_getElem (by simpa using h), List.getElem_range, List.getElem?_eq_getElem h]
    show some (atB m i) = _
    unfold atB
    rw [List.getD_eq_getElem?_getD, List.getElem?_eq_getElem h]
    rfl
  · rw [List.getElem?_eq_none (by simpa using h), List.getElem?_eq_none (by omega)]
    rfl
/-- those that come too short -/
theorem goodB_of {L ks : List Nat} (hd : L.Nodup) (hlo : ∀ i ∈ L, longB e (atB l i) = true) (hk : ks.length < L.length) (hf : ∀ i ∈ L, ∀ j, j < m.length → fitB e (atB l i) (atB m j) = true → j ∈ ks) : goodB l m e (sortN L) = true := by
  have hp := sortN_perm L
  unfold goodB
  rw [sortN_asc hd, Bool.true_and, Bool.and_eq_true, List.all_eq_true, decide_eq_true_iff]
  refine ⟨fun i hi => hlo i (hp.mem_iff.mp hi), ?_⟩
  have e1 : (m.filter fun y => (sortN L).any fun i => fitB e (atB l i) y).length = ((List.range m.length).filter fun j => (sortN L).any fun i => fitB e (atB l i) (atB m j)).length := by
    conv => lhs; rw [← atB_map m]
    rw [List.filter_map, List.length_map]
    rfl
  rw [e1, hp.length_eq]
  have e2 := List.Nodup.length_le_of_subset (l₁ := (List.range m.length).filter fun j => (sortN L).any fun i => fitB e (atB l i) (atB m j)) (l₂ := ks) (List.nodup_range.sublist List.filter_sublist) (fun j hj => by
    rw [List.mem_filter, List.any_eq_true] at hj
    obtain ⟨hj, i, hi, h⟩ := hj
    exact hf i (hp.mem_iff.mp hi) j (List.mem_range.mp hj) h)
  omega
/-- a ban of numbers that are there -/
structure GoodB (l m : List Br) (e : Int) (L : List Nat) : Prop where
  g : goodB l m e L = true
  lt : ∀ i ∈ L, i < l.length
  z : L.length ≤ 1000
theorem way_law (hl : l.length ≤ 20) (hml : m.length ≤ 20) (hm : Mt l m e M) (hx0 : lookN M x0 = none) (hx0l : x0 < l.length) (hlg : longB e (atB l x0) = true) :
    ∃ R, wayF l m e M x0 = some R ∧ (∀ f, R = .inl f → GoodF l m e M x0 f) ∧ (∀ L, R = .inr L → GoodB l m e L) := by
  have hw0 : WOk l m e M x0 [] ⟨[], [(x0, none)], [x0]⟩ := ⟨.nil, rfl, rfl, fun p hp => by simp at hp⟩
  obtain ⟨R, h1, h2, h3⟩ := wayQ_ok hl hml hm hx0 hx0l 99 _ [] hw0 (fun p hp => by simp at hp) (by omega)
  cases R with
  | inl f => exact ⟨.inl f, by unfold wayF; rw [h1]; rfl, fun f' h => by cases h; exact h2 f rfl, fun L h => (by cases h)⟩
  | inr L =>
    refine ⟨.inr (sortN L), by unfold wayF; rw [h1]; rfl, fun f h => (by cases h), fun L' h => ?_⟩
    cases h
    obtain ⟨w, dn, hw, hd, hq, rfl⟩ := h3 L rfl
    have hsq := hw.sq
    rw [hq, List.append_nil] at hsq
    have hdis : ∀ p ∈ w.came, lookN M (hold M p.1) = some p.1 := fun p hp => by
      obtain ⟨y, hy, _⟩ := hw.hd p hp
      rw [hold_of hm hy]; exact hy
    refine ⟨goodB_of (ks := w.came.map (·.1)) ?_ ?_ ?_ ?_, fun i hi => ?_, ?_⟩
    · rw [hw.lt]
      unfold seqW
      rw [List.map_cons, List.map_map, List.nodup_cons]
      refine ⟨fun z => ?_, ?_⟩
      · obtain ⟨p, hp, z⟩ := List.mem_map.mp z
        have := hdis p hp
        rw [show hold M p.1 = x0 from z, hx0] at this
        cases this
      · have := hw.cm.nd
        unfold List.Nodup at this ⊢
        rw [List.pairwise_map] at this ⊢
        refine (List.Pairwise.and_mem.mp this).imp fun {a c} hac z => ?_
        have z : hold M a.1 = hold M c.1 := z
        have e1 := hdis a hac.1
        have e2 := hdis c hac.2.1
        rw [z, e2] at e1
        exact hac.2.2 (Option.some.inj e1).symm
    · intro i hi
      rw [hw.lt] at hi
      unfold seqW at hi
      rw [List.map_cons, List.map_map] at hi
      rcases List.mem_cons.mp hi with rfl | hi
      · exact hlg
      · obtain ⟨p, hp, rfl⟩ := List.mem_map.mp hi
        obtain ⟨y, hy, hlo⟩ := hw.hd p hp
        show longB e (atB l (hold M p.1)) = true
        rw [hold_of hm hy]; exact hlo
    · rw [hw.lt]
      unfold seqW
      simp
    · intro i hi j hj hf
      rw [hw.lt, hsq] at hi
      obtain ⟨p, hp, rfl⟩ := List.mem_map.mp hi
      exact look_keys.mp (hd p hp j hj hf)
    · have hi := (sortN_perm _).mem_iff.mp hi
      rw [hw.lt] at hi
      unfold seqW at hi
      rw [List.map_cons, List.map_map] at hi
      rcases List.mem_cons.mp hi with rfl | hi
      · exact hx0l
      · obtain ⟨p, hp, rfl⟩ := List.mem_map.mp hi
        exact (hm.ok _ _ (hdis p hp)).1
    · rw [(sortN_perm _).length_eq, hw.lt]
      have := hw.cm.len
      unfold seqW
      simp
      omega
end

section
variable {l m : List Br} {e : Int} {dl dm : D}
def walS : MS := (sIf (mAndT (mT (mCall0 fm_is_long (mCons (mVar 5) (mCons (mVar 2) mNil)))) (mT (m2 (inG true) (mVar 4) (mVar 3)))) (sSeq (sAsg (gTp (gCn (gNm 3) (gCn (gNm 6) gNl))) (mCall0 fm_way_from (mCons (mVar 0) (mCons (mVar 1) (mCons (mVar 2) (mCons (mVar 3) (mCons (mVar 4) mNil))))))) (sIf (mT (m2 isnG (mVar 6) (mC .non))) (sRet (mTup (mCons (mC .non) (mCons (mVar 6) mNil)))) sSkip)) sSkip)
abbrev walG : MG := gTp (gCn (gNm 4) (gCn (gNm 5) gNl))
/-- what a walk that went well keeps -/
structure Kept (l m : List Br) (e : Int) (js : List Nat) (M M' : List (Nat × Nat)) : Prop where
  mt : Mt l m e M'
  all : ∀ j ∈ js, longB e (atB l j) = true → (lookN M' j).isSome = true
  long : ∀ h, longB e (atB l h) = true → (lookN M h).isSome = true → (lookN M' h).isSome = true
  val : ∀ h t, lookN M h = some t → ∃ h', lookN M' h' = some t
theorem all_loop (hl : IsBars dl l) (hm : IsBars dm m) (zl : l.length ≤ 20) (zm : m.length ≤ 20) {b : Bag} : ∀ (js : List Nat) (M : List (Nat × Nat)) (s4 s5 s6 : Sl), (∀ j ∈ js, j < l.length) → Mt l m e M →
    (∃ L, forL walG walS (wayD l js) [.va dl, .va dm, .va (.int e), .va (encM M), s4, s5, s6] b = .rt (.tup [.non, .tup (L.map encI)]) b ∧ GoodB l m e L) ∨
    (∃ M' s4' s5' s6', forL walG walS (wayD l js) [.va dl, .va dm, .va (.int e), .va (encM M), s4, s5, s6] b = .nx [.va dl, .va dm, .va (.int e), .va (encM M'), s4', s5', s6'] b ∧ Kept l m e js M M')
  | [], M, s4, s5, s6, hj, hM => .inr ⟨M, s4, s5, s6, rfl, hM, fun j h => by simp at h, fun h _ h2 => h2, fun h t h2 => ⟨h, h2⟩⟩
  | j :: js, M, s4, s5, s6, hj, hM => by
    have hjl := hj j List.mem_cons_self
    have hj' : ∀ i ∈ js, i < l.length := fun i hi => hj i (List.mem_cons_of_mem _ hi)
    have hin := in_N encI true M j
    by_cases hc : longB e (atB l j) = true ∧ lookN M j = none
    · obtain ⟨h1, h2⟩ := hc
      obtain ⟨R, w1, w2, w3⟩ := way_law zl zm hM h2 hjl h1
      have hv := v_way_from (b := b) hl hm (by omega) (by have := hM.len; omega) (fun j y h => by
        have := (look_turn hM).mp h
        exact ⟨(hM.ok _ _ this).1, by rw [this]; rfl⟩) w1
      rw [h2] at hin
      cases R with
      | inr L =>
        refine .inl ⟨L, ?_, w3 L rfl⟩
        refine forL_rt (env1 := [.va dl, .va dm, .va (.int e), .va (encM M), .va (encI j), .va (encB (atB l j)), s6]) rfl ?_
        simp only [encI, encM] at hin hv ⊢
        simp [walS, v_is_long, h1, hin, hv, encR]
        simp [isNonD]
      | inl f =>
        have hg := w2 f rfl
        have hs : walS [.va dl, .va dm, .va (.int e), .va (encM M), .va (encI j), .va (encB (atB l j)), s6] b = .nx [.va dl, .va dm, .va (.int e), .va (encM f), .va (encI j), .va (encB (atB l j)), .va .non] b := by
          simp only [encI, encM] at hin hv ⊢
          simp [walS, v_is_long, h1, hin, hv, encR, encM]
        have st := forL_nx (g := walG) (d := .tup [encI j, encB (atB l j)]) (ds := wayD l js) (env := [.va dl, .va dm, .va (.int e), .va (encM M), s4, s5, s6]) rfl hs
        rcases all_loop hl hm zl zm (b := b) js f (.va (encI j)) (.va (encB (atB l j))) (.va .non) hj' hg.mt with ⟨L, e1, g1⟩ | ⟨M', a4, a5, a6, e1, k⟩
        · exact .inl ⟨L, st.trans e1, g1⟩
        · refine .inr ⟨M', a4, a5, a6, st.trans e1, k.mt, fun i hi hlo => ?_, fun h hlo hk => k.long h hlo (hg.long h hlo hk), fun h t ht => ?_⟩
          · rcases List.mem_cons.mp hi with rfl | hi
            · exact k.long _ hlo hg.key
            · exact k.all i hi hlo
          · obtain ⟨h', ht'⟩ := hg.val h t ht
            exact k.val h' t ht'
    · have hs : walS [.va dl, .va dm, .va (.int e), .va (encM M), .va (encI j), .va (encB (atB l j)), s6] b = .nx [.va dl, .va dm, .va (.int e), .va (encM M), .va (encI j), .va (encB (atB l j)), s6] b := by
        simp only [encI, encM] at hin ⊢
        cases h1 : longB e (atB l j) with
        | false => simp [walS, v_is_long, h1]
        | true =>
          cases h2 : lookN M j with
          | none => exact absurd ⟨h1, h2⟩ hc
          | some t =>
            rw [h2] at hin
            simp [walS, v_is_long, h1, hin]
      have st := forL_nx (g := walG) (d := .tup [encI j, encB (atB l j)]) (ds := wayD l js) (env := [.va dl, .va dm, .va (.int e), .va (encM M), s4, s5, s6]) rfl hs
      rcases all_loop hl hm zl zm (b := b) js M (.va (encI j)) (.va (encB (atB l j))) s6 hj' hM with ⟨L, e1, g1⟩ | ⟨M', a4, a5, a6, e1, k⟩
      · exact .inl ⟨L, st.trans e1, g1⟩
      · refine .inr ⟨M', a4, a5, a6, st.trans e1, k.mt, fun i hi hlo => ?_, k.long, k.val⟩
        rcases List.mem_cons.mp hi with rfl | hi
        · refine k.long _ hlo ?_
          cases h2 : lookN M i with
          | none => exact absurd ⟨hlo, h2⟩ hc
          | some t => rfl
        · exact k.all i hi hlo
theorem v_with_all (hl : IsBars dl l) (hm : IsBars dm m) (zl : l.length ≤ 20) (zm : m.length ≤ 20) (b : Bag) {M : List (Nat × Nat)} (hM : Mt l m e M) :
    (∃ L, fm_with_all [dl, dm, .int e, encM M] b = .ok (.tup [.non, .tup (L.map encI)]) b ∧ GoodB l m e L) ∨
    (∃ M', fm_with_all [dl, dm, .int e, encM M] b = .ok (.tup [encM M', .non]) b ∧ Kept l m e (List.range l.length) M M') := by
  have he := enA_bars (b := b) hl (by omega)
  rcases all_loop hl hm zl zm (b := b) (List.range l.length) M .un .un .un (fun j hj => List.mem_range.mp hj) hM with ⟨L, e1, g1⟩ | ⟨M', a4, a5, a6, e1, k⟩
  · refine .inl ⟨L, ?_, g1⟩
    unfold walG walS at e1
    simp [fm_with_all, e_fnM, ms_with_all, he, e1]
  · refine .inr ⟨M', ?_, k⟩
    unfold walG walS at e1
    simp [fm_with_all, e_fnM, ms_with_all, he, e1]
end

section
variable {l m : List Br} {e : Int} {dl dm : D}
/-- pairs of numbers, ascending -/
def sortQ (ps : List (Nat × Nat)) : List (Nat × Nat) := (sortP (ps.map fun p => ((p.1 : Int), (p.2 : Int)))).map fun p => (p.1.toNat, p.2.toNat)
theorem encN_encP (ps : List (Nat × Nat)) : ps.map encN = (ps.map fun p => ((p.1 : Int), (p.2 : Int))).map encP := by
  rw [List.map_map]
  rfl
theorem sortQ_int (ps : List (Nat × Nat)) : sortP (ps.map fun p => ((p.1 : Int), (p.2 : Int))) = (sortQ ps).map fun p => ((p.1 : Int), (p.2 : Int)) := by
  unfold sortQ
  rw [List.map_map]
  refine ((List.map_id _).symm.trans (List.map_congr_left fun x hx => ?_))
  have hx := (sortP_perm _).mem_iff.mp hx
  obtain ⟨i, _, rfl⟩ := List.mem_map.mp hx
  rfl
theorem pairs_encP (qs : List (Int × Int)) : pairsD (qs.map encP) = some qs := by
  induction qs with
  | nil => rfl
  | cons q qs ih =>
    rw [List.map_cons]
    show (pairsD (qs.map encP)).map _ = _
    rw [ih]
    rfl
theorem o_sortQ (ps : List (Nat × Nat)) : sortedPG [.lst (ps.map encN)] = some (.lst ((sortQ ps).map encN)) := by
  show (pairsD _).map _ = _
  rw [encN_encP, pairs_encP]
  show some (D.lst ((sortP _).map encP)) = _
  rw [sortQ_int, ← encN_encP]
theorem sortQ_perm (ps : List (Nat × Nat)) : (sortQ ps).Perm ps := by
  have h := (sortP_perm (ps.map fun p => ((p.1 : Int), (p.2 : Int)))).map fun p => (p.1.toNat, p.2.toNat)
  rw [List.map_map] at h
  have e : ps.map ((fun p : Int × Int => (p.1.toNat, p.2.toNat)) ∘ fun p => ((p.1 : Int), (p.2 : Int))) = ps := (List.map_congr_left fun x _ => rfl).trans (List.map_id ps)
  rw [e] at h
  exact h
theorem sortQ_asc {ps : List (Nat × Nat)} (h : (ps.map (·.1)).Nodup) : ascB ((sortQ ps).map (·.1)) = true := by
  have h1 := sortP_sorted (ps.map fun p => ((p.1 : Int), (p.2 : Int)))
  rw [sortQ_int, List.pairwise_map] at h1
  have h2 : ((sortQ ps).map (·.1)).Nodup := ((sortQ_perm ps).map _).nodup_iff.mpr h
  unfold List.Nodup at h2
  rw [List.pairwise_map] at h2
  refine asc_of ?_
  rw [List.pairwise_map]
  refine (List.Pairwise.and h1 h2).imp fun {a c} hac => ?_
  have h3 := hac.1
  have h4 := hac.2
  simp only [leP, Bool.or_eq_true, Bool.and_eq_true, decide_eq_true_eq] at h3
  omega
theorem leftB_no {is : List Nat} (h : ∀ i, i < l.length → longB e (atB l i) = true → i ∈ is) : leftB e l is = false := by
  unfold leftB
  rw [List.any_eq_false]
  rintro ⟨x, i⟩ hx
  have hx := List.mem_zipIdx hx
  simp only [Nat.zero_add, Nat.sub_zero] at hx
  have hat : atB l i = x := by
    unfold atB
    rw [List.getD_eq_getElem?_getD, List.getElem?_eq_getElem hx.2.1]
    exact hx.2.2.symm
  simp
  intro hl
  exact h i hx.2.1 (by rw [hat]; exact hl)
theorem leftB_yes {is : List Nat} (h : leftB e l is = false) {i : Nat} (hi : i < l.length) (hl : longB e (atB l i) = true) : i ∈ is := by
  unfold leftB at h
  rw [List.any_eq_false] at h
  have hat : atB l i = l[i] := by
    unfold atB
    rw [List.getD_eq_getElem?_getD, List.getElem?_eq_getElem hi]
    rfl
  have := h (l[i], i) (by rw [List.mem_zipIdx_iff_getElem?]; simp [hi])
  simp at this
  exact this (by rw [← hat]; exact hl)
/-- both sides are paired -/
theorem good_both {M1 M2 : List (Nat × Nat)} (k1 : Kept l m e (List.range l.length) [] M1) (k2 : Kept m l e (List.range m.length) (turnN M1) M2) : goodP l m e (sortQ (M2.map fun p => (p.2, p.1))) = true ∧ ∀ p ∈ sortQ (M2.map fun p => (p.2, p.1)), p.1 < l.length ∧ p.2 < m.length := by
  have hp := sortQ_perm (M2.map fun p => (p.2, p.1))
  have f1 : (M2.map fun p => (p.2, p.1)).map (·.1) = M2.map (·.2) := by rw [List.map_map]; rfl
  have f2 : (M2.map fun p => (p.2, p.1)).map (·.2) = M2.map (·.1) := by rw [List.map_map]; rfl
  have hp1 := hp.map (·.1)
  have hp2 := hp.map (·.2)
  rw [f1] at hp1
  rw [f2] at hp2
  have hok : ∀ p ∈ sortQ (M2.map fun p => (p.2, p.1)), p.1 < l.length ∧ p.2 < m.length ∧ fitB e (atB l p.1) (atB m p.2) = true := fun p h => by
    have h := hp.mem_iff.mp h
    obtain ⟨q, hq, rfl⟩ := List.mem_map.mp h
    have := k2.mt.ok _ _ (mem_look k2.mt.nd (k := q.1) (v := q.2) hq)
    exact ⟨this.2.1, this.1, by rw [fitB_comm]; exact this.2.2⟩
  refine ⟨?_, fun p h => ⟨(hok p h).1, (hok p h).2.1⟩⟩
  unfold goodP
  rw [sortQ_asc (by rw [f1]; exact k2.mt.vals), Bool.true_and, decide_eq_true (hp2.nodup_iff.mpr k2.mt.nd), Bool.true_and, List.all_eq_true.mpr fun p h => (hok p h).2.2, Bool.true_and]
  rw [leftB_no, leftB_no]
  · rfl
  · intro i hi hlo
    exact hp2.mem_iff.mpr (look_keys.mp (k2.all i (List.mem_range.mpr hi) hlo))
  · intro i hi hlo
    refine hp1.mem_iff.mpr ?_
    have := k1.all i (List.mem_range.mpr hi) hlo
    cases h1 : lookN M1 i with
    | none => rw [h1] at this; cases this
    | some t =>
      obtain ⟨h', ht⟩ := k2.val t i ((look_turn k1.mt).mpr h1)
      exact List.mem_map.mpr ⟨_, look_mem ht, rfl⟩
/-- what is told -/
inductive Told (l m : List Br) (e : Int) : D → D → Prop
  | pair (ps : List (Nat × Nat)) (h : goodP l m e ps = true) (hl : ∀ p ∈ ps, p.1 < l.length ∧ p.2 < m.length) (hz : ps.length ≤ 20) : Told l m e (.tup (ps.map encN)) .non
  | ban (i : Int) (L : List Nat) (hi : i = 0 ∨ i = 1) (h : GoodB (if i = 0 then l else m) (if i = 0 then m else l) e L) : Told l m e .non (.tup [.int i, .tup (L.map encI)])
set_option maxHeartbeats 1000000 in
theorem v_pob (hl : IsBars dl l) (hm : IsBars dm m) (zl : l.length ≤ 20) (zm : m.length ≤ 20) (b : Bag) : ∃ x y, Told l m e x y ∧ fm_paired_or_banned [dl, dm, .int e] b = .ok (.tup [x, y]) b := by
  have e0 : encM [] = .dK [] [] := rfl
  rcases v_with_all (e := e) hl hm zl zm b .nil with ⟨L, e1, g1⟩ | ⟨M1, e1, k1⟩
  · refine ⟨_, _, .ban 0 L (.inl rfl) g1, ?_⟩
    rw [e0] at e1
    simp [fm_paired_or_banned, e_fnM, ms_paired_or_banned, e1]
    simp [isNonD]
  · have z1 : M1.length ≤ 100000 := by have := k1.mt.len; omega
    have hd : itemsD (kN M1) (vN encI M1) = _ := items_N encI M1
    have dc := dc_turn (g := gTp (gCn (gNm 6) (gCn (gNm 7) gNl))) (kl := mVar 7) (el := mVar 6) (env := [.va dl, .va dm, .va (.int e), .va (encM M1), .va .non, .un, .un, .un]) (b := b) M1 [] fun y hy => ⟨_, rfl, rfl, rfl⟩
    have hk : kN ([] : List (Nat × Nat)) = [] := rfl
    have hv : vN encI ([] : List (Nat × Nat)) = [] := rfl
    rw [hk, hv] at dc
    change dcL _ mYes _ _ _ _ [] [] b = .ok (kN (turnN M1), vN encI (turnN M1)) b at dc
    rw [e0] at e1
    rcases v_with_all (e := e) hm hl zm zl b k1.mt.turn with ⟨L, e2, g2⟩ | ⟨M2, e2, k2⟩
    · refine ⟨_, _, .ban 1 L (.inr rfl) g2, ?_⟩
      simp only [encI, encM] at e1 e2 dc hd ⊢
      simp [fm_paired_or_banned, e_fnM, ms_paired_or_banned, e1, hd, dc, z1, e2]
      simp [isNonD]
    · have z2 : M2.length ≤ 100000 := by have := k2.mt.len; omega
      have hd2 : itemsD (kN M2) (vN encI M2) = _ := items_N encI M2
      obtain ⟨g1, g2⟩ := good_both k1 k2
      refine ⟨_, _, .pair _ g1 g2 ?_, ?_⟩
      · rw [(sortQ_perm _).length_eq, List.length_map]
        have := k2.mt.len
        omega
      have lc := lc_all (g := gTp (gCn (gNm 7) (gCn (gNm 6) gNl))) (me := mTup (mCons (mVar 6) (mCons (mVar 7) mNil))) (env := [.va dl, .va dm, .va (.int e), .va (encM M1), .va .non, .va (encM M2), .un, .un]) (b := b) M2 (fun x => D.tup [encI x.1, encI x.2]) (fun x => encN (x.2, x.1)) fun x hx => ⟨_, rfl, rfl⟩
      have hs := o_sortQ (M2.map fun p => (p.2, p.1))
      rw [List.map_map] at hs
      change sortedPG [.lst (M2.map fun x => encN (x.2, x.1))] = _ at hs
      simp only [encI, encM] at e1 e2 dc hd hd2 lc ⊢
      simp [fm_paired_or_banned, e_fnM, ms_paired_or_banned, e1, hd, dc, z1, e2, hd2, lc, z2, hs]
theorem v_check_barsA (hl : IsBars dl l) {b : Bag} (h : l.all okB = true) (zl : l.length ≤ 20) : fm_check_bars [dl] b = .ok .non b := by
  have hl2 : ¬ 20 < l.length := by omega
  have hl3 : l.length ≤ 100000 := by omega
  have hc := lc_all (g := gNm 1) (me := mCall0 fm_is_bar (mCons (mVar 1) mNil)) (env := [.va dl, .un]) (b := b) l encB (fun _ => .bl true) fun x hx => ⟨_, rfl, by simp [v_is_bar (List.all_eq_true.mp h x hx)]⟩
  rcases hl with rfl | rfl
  · simp [fm_check_bars, e_fnM, ms_check_bars, hl2, hl3, hc]
    simp [Int.not_lt.mpr (show (l.length : Int) ≤ 20 by omega)]
  · simp [fm_check_bars, e_fnM, ms_check_bars, hl2, hl3, hc]
    simp [Int.not_lt.mpr (show (l.length : Int) ≤ 20 by omega)]
theorem v_check_askedA (hl : IsBars dl l) (hm : IsBars dm m) (h : Asked l m e) {b : Bag} : fm_check_asked [dl, dm, .int e] b = .ok .non b := by
  simp [fm_check_asked, e_fnM, ms_check_asked, v_check_barsA hl h.l1 h.l2, v_check_barsA hm h.m1 h.m2, v_check_within ⟨h.e0, h.e1⟩]
theorem v_told (hl : IsBars dl l) (hm : IsBars dm m) (h : Asked l m e) (b : Bag) : ∃ x y, Told l m e x y ∧ fm_pairing [dl, dm, .int e] b = .ok x b ∧ fm_ban [dl, dm, .int e] b = .ok y b := by
  obtain ⟨x, y, ht, e1⟩ := v_pob (e := e) hl hm h.l2 h.m2 b
  refine ⟨x, y, ht, ?_, ?_⟩
  · simp [fm_pairing, e_fnM, ms_pairing, v_check_askedA hl hm h, e1]
  · simp [fm_ban, e_fnM, ms_ban, v_check_askedA hl hm h, e1]
end

theorem nodup_inj {α β : Type} {f : α → β} : ∀ {xs : List α}, (xs.map f).Nodup → ∀ p ∈ xs, ∀ q ∈ xs, f p = f q → p = q
  | [], _, p, hp, _, _, _ => by simp at hp
  | x :: xs, h, p, hp, q, hq, z => by
    rw [List.map_cons, List.nodup_cons] at h
    rcases List.mem_cons.mp hp with e1 | hp
    · rcases List.mem_cons.mp hq with e2 | hq
      · rw [e1, e2]
      · exact absurd (List.mem_map.mpr ⟨q, hq, by rw [← z, e1]⟩) h.1
    · rcases List.mem_cons.mp hq with e2 | hq
      · exact absurd (List.mem_map.mpr ⟨p, hp, by rw [z, e2]⟩) h.1
      · exact nodup_inj h.2 p hp q hq z
section
variable {l m : List Br} {e : Int} {dl dm : D}
/-- all long ones of the first fit unlike ones of the second -/
def Cov (l m : List Br) (e : Int) : Prop := ∃ g : Nat → Nat, (∀ i, i < l.length → longB e (atB l i) = true → g i < m.length ∧ fitB e (atB l i) (atB m (g i)) = true) ∧ ∀ i j, i < l.length → j < l.length → longB e (atB l i) = true → longB e (atB l j) = true → g i = g j → i = j
theorem asc_pw : ∀ {ns : List Nat}, ascB ns = true → ns.Pairwise (· < ·)
  | [], _ => .nil
  | [a], _ => by simp
  | a :: c :: ns, h => by
    rw [asc_cons, Bool.and_eq_true, decide_eq_true_iff] at h
    have ih := asc_pw h.2
    refine List.pairwise_cons.mpr ⟨fun x hx => ?_, ih⟩
    rcases List.mem_cons.mp hx with rfl | hx
    · exact h.1
    · exact Nat.lt_trans h.1 (List.rel_of_pairwise_cons ih hx)
theorem asc_nd {ns : List Nat} (h : ascB ns = true) : ns.Nodup := (asc_pw h).imp fun h => by omega
theorem no_cov {L : List Nat} (h : GoodB l m e L) : ¬ Cov l m e := by
  rintro ⟨g, h1, h2⟩
  have hg := h.g
  unfold goodB at hg
  rw [Bool.and_eq_true, Bool.and_eq_true, List.all_eq_true, decide_eq_true_iff] at hg
  obtain ⟨⟨ha, hlo⟩, hlt⟩ := hg
  have e1 : (m.filter fun y => L.any fun i => fitB e (atB l i) y).length = ((List.range m.length).filter fun j => L.any fun i => fitB e (atB l i) (atB m j)).length := by
    conv => lhs; rw [← atB_map m]
    rw [List.filter_map, List.length_map]
    rfl
  rw [e1] at hlt
  have nd : (L.map g).Nodup := by
    unfold List.Nodup
    rw [List.pairwise_map]
    refine (List.Pairwise.and_mem.mp (asc_nd ha)).imp fun {a c} hac z => ?_
    exact hac.2.2 (h2 a c (h.lt a hac.1) (h.lt c hac.2.1) (hlo a hac.1) (hlo c hac.2.1) z)
  have e2 := List.Nodup.length_le_of_subset (l₂ := (List.range m.length).filter fun j => L.any fun i => fitB e (atB l i) (atB m j)) nd fun j hj => by
    obtain ⟨i, hi, rfl⟩ := List.mem_map.mp hj
    have := h1 i (h.lt i hi) (hlo i hi)
    rw [List.mem_filter, List.any_eq_true]
    exact ⟨List.mem_range.mpr this.1, i, hi, this.2⟩
  rw [List.length_map] at e2
  omega
structure PairOk (l m : List Br) (e : Int) (ps : List (Nat × Nat)) : Prop where
  n1 : (ps.map (·.1)).Nodup
  n2 : (ps.map (·.2)).Nodup
  fit : ∀ p ∈ ps, fitB e (atB l p.1) (atB m p.2) = true
  lt : ∀ p ∈ ps, p.1 < l.length ∧ p.2 < m.length
  l1 : ∀ i, i < l.length → longB e (atB l i) = true → i ∈ ps.map (·.1)
  l2 : ∀ i, i < m.length → longB e (atB m i) = true → i ∈ ps.map (·.2)
theorem PairOk.of {ps : List (Nat × Nat)} (h : goodP l m e ps = true) (hl : ∀ p ∈ ps, p.1 < l.length ∧ p.2 < m.length) : PairOk l m e ps := by
  unfold goodP at h
  simp only [Bool.and_eq_true, Bool.not_eq_true', decide_eq_true_iff, List.all_eq_true] at h
  obtain ⟨⟨⟨⟨h1, h2⟩, h3⟩, h4⟩, h5⟩ := h
  exact ⟨asc_nd h1, h2, h3, hl, fun i hi hlo => leftB_yes h4 hi hlo, fun i hi hlo => leftB_yes h5 hi hlo⟩
theorem PairOk.cov {ps : List (Nat × Nat)} (h : PairOk l m e ps) : Cov l m e := by
  have key : ∀ i, i < l.length → longB e (atB l i) = true → ∃ t, lookN ps i = some t ∧ (i, t) ∈ ps := fun i hi hlo => by
    have := look_keys.mpr (h.l1 i hi hlo)
    cases ht : lookN ps i with
    | none => rw [ht] at this; cases this
    | some t => exact ⟨t, rfl, look_mem ht⟩
  refine ⟨fun i => (lookN ps i).getD 0, fun i hi hlo => ?_, fun i j hi hj hlo hlo' z => ?_⟩
  · obtain ⟨t, ht, hm⟩ := key i hi hlo
    dsimp only
    rw [ht, Option.getD_some]
    have q1 := (h.lt _ hm).2
    have q2 := h.fit _ hm
    dsimp only at q1 q2
    exact ⟨q1, q2⟩
  · obtain ⟨t, ht, hm⟩ := key i hi hlo
    obtain ⟨t', ht', hm'⟩ := key j hj hlo'
    simp only [ht, ht', Option.getD_some] at z
    subst z
    have n2 := h.n2
    have := nodup_inj (f := fun p : Nat × Nat => p.2) n2 (i, t) hm (j, t) hm' rfl
    exact (Prod.mk.inj this).1
theorem PairOk.swap {ps : List (Nat × Nat)} (h : PairOk l m e ps) : PairOk m l e (ps.map fun p => (p.2, p.1)) := by
  have f1 : (ps.map fun p => (p.2, p.1)).map (·.1) = ps.map (·.2) := by rw [List.map_map]; rfl
  have f2 : (ps.map fun p => (p.2, p.1)).map (·.2) = ps.map (·.1) := by rw [List.map_map]; rfl
  refine ⟨by rw [f1]; exact h.n2, by rw [f2]; exact h.n1, fun p hp => ?_, fun p hp => ?_, fun i hi hlo => by rw [f1]; exact h.l2 i hi hlo, fun i hi hlo => by rw [f2]; exact h.l1 i hi hlo⟩
  · obtain ⟨q, hq, rfl⟩ := List.mem_map.mp hp
    rw [fitB_comm]
    exact h.fit q hq
  · obtain ⟨q, hq, rfl⟩ := List.mem_map.mp hp
    exact ⟨(h.lt q hq).2, (h.lt q hq).1⟩
end

/-! ### Kuhn's walk -/
theorem lookT_put {tk : List (Int × Int)} {k v j : Int} : lookT (putT tk k v) j = if j = k then some v else lookT tk j := by
  unfold putT
  by_cases h : (tk.any fun p => decide (p.1 = k)) = true
  · rw [if_pos h]
    induction tk with
    | nil => simp at h
    | cons x tk ih =>
      rw [List.map_cons]
      by_cases hx : x.1 = k
      · rw [if_pos hx, lookT, lookT]
        by_cases hj : j = k
        · rw [if_pos hj, if_pos (show x.1 = j by rw [hj]; exact hx)]
        · rw [if_neg hj, if_neg (show ¬ x.1 = j by rw [hx]; exact Ne.symm hj), if_neg (show ¬ x.1 = j by rw [hx]; exact Ne.symm hj)]
          by_cases hr : (tk.any fun p => decide (p.1 = k)) = true
          · rw [ih hr, if_neg hj]
          · have : tk.map (fun p => if p.1 = k then (p.1, v) else p) = tk := by
              refine (List.map_congr_left fun y hy => ?_).trans (List.map_id tk)
              rw [if_neg (fun z => hr (List.any_eq_true.mpr ⟨y, hy, by simp [z]⟩))]
              rfl
            rw [this]
      · rw [if_neg hx, lookT, lookT]
        have hr : (tk.any fun p => decide (p.1 = k)) = true := by
          rw [List.any_cons] at h
          simpa [hx] using h
        by_cases hj : x.1 = j
        · rw [if_pos hj, if_pos hj, if_neg (by omega)]
        · rw [if_neg hj, if_neg hj]
          exact ih hr
  · rw [if_neg h]
    induction tk with
    | nil =>
      show (if k = j then some v else none) = _
      by_cases hj : j = k
      · rw [if_pos hj.symm, if_pos hj]
      · rw [if_neg (Ne.symm hj), if_neg hj]
        rfl
    | cons x tk ih =>
      rw [List.any_cons] at h
      have h1 : ¬ x.1 = k := fun z => h (by simp [z])
      have h2 : ¬ (tk.any fun p => decide (p.1 = k)) = true := fun z => h (by simp [z])
      rw [List.cons_append, lookT, lookT, ih h2]
      by_cases hj : x.1 = j
      · rw [if_pos hj, if_pos hj, if_neg (by omega)]
      · rw [if_neg hj, if_neg hj]
theorem lookT_key {tk : List (Int × Int)} {k : Int} : lookT tk k = none ↔ k ∉ tk.map (·.1) := by
  induction tk with
  | nil => simp [lookT]
  | cons x tk ih =>
    rw [lookT, List.map_cons, List.mem_cons]
    split
    · rename_i h; simp [h]
    · rename_i h
      rw [ih]
      constructor
      · rintro z (y | y)
        · exact h y.symm
        · exact z y
      · exact fun z y => z (.inr y)
theorem putT_keys {tk : List (Int × Int)} {k v : Int} : (putT tk k v).map (·.1) = if k ∈ tk.map (·.1) then tk.map (·.1) else tk.map (·.1) ++ [k] := by
  unfold putT
  have e : (tk.any fun p => decide (p.1 = k)) = true ↔ k ∈ tk.map (·.1) := by
    rw [List.any_eq_true, List.mem_map]
    simp
  by_cases h : (tk.any fun p => decide (p.1 = k)) = true
  · rw [if_pos h, if_pos (e.mp h), List.map_map]
    exact List.map_congr_left fun x _ => by
      show (if x.1 = k then (x.1, v) else x).1 = x.1
      split <;> rfl
  · rw [if_neg h, if_neg (fun z => h (e.mpr z)), List.map_append]
    rfl
theorem int_len {ks : List Int} {N : Nat} (h : ks.Nodup) (hk : ∀ k ∈ ks, 0 ≤ k ∧ k < (N : Int)) : ks.length ≤ N := by
  have := h.length_le_of_subset (l₂ := (List.range N).map fun i : Nat => (i : Int)) fun k z => by
    have := hk k z
    exact List.mem_map.mpr ⟨k.toNat, List.mem_range.mpr (by omega), by omega⟩
  simpa using this
section
variable {rows : List (List Int)} {N : Nat}
/-- the rows' numbers -/
def RowsOk (rows : List (List Int)) (N : Nat) : Prop := ∀ a row, atI rows a = some row → ∀ t ∈ row, 0 ≤ t ∧ t < (N : Int)
structure TkOk (rows : List (List Int)) (N : Nat) (tk : List (Int × Int)) : Prop where
  nd : (tk.map (·.1)).Nodup
  lt : ∀ k ∈ tk.map (·.1), 0 ≤ k ∧ k < (N : Int)
  ed : ∀ k h, lookT tk k = some h → ∃ row, atI rows h = some row ∧ k ∈ row
structure SnOk (N : Nat) (sn : List Int) : Prop where
  nd : sn.Nodup
  lt : ∀ k ∈ sn, 0 ≤ k ∧ k < (N : Int)
theorem SnOk.len {sn : List Int} (h : SnOk N sn) : sn.length ≤ N := int_len h.nd h.lt
theorem TkOk.len {tk : List (Int × Int)} (h : TkOk rows N tk) : tk.length ≤ N := by
  have := int_len h.nd h.lt
  simpa using this
theorem TkOk.put {tk : List (Int × Int)} (h : TkOk rows N tk) {k a : Int} {row : List Int} (hk : 0 ≤ k ∧ k < (N : Int)) (hr : atI rows a = some row) (hm : k ∈ row) : TkOk rows N (putT tk k a) := by
  refine ⟨?_, fun x hx => ?_, fun x y e => ?_⟩
  · rw [putT_keys]
    split
    · exact h.nd
    · rename_i hn
      rw [List.nodup_append]
      refine ⟨h.nd, by simp, fun a ha c hc => ?_⟩
      rw [List.mem_singleton.mp hc]
      exact fun z => hn (z ▸ ha)
  · rw [putT_keys] at hx
    split at hx
    · exact h.lt x hx
    · rcases List.mem_append.mp hx with hx | hx
      · exact h.lt x hx
      · rw [List.mem_singleton.mp hx]; exact hk
  · rw [lookT_put] at e
    split at e
    · rename_i z
      cases e
      subst z
      exact ⟨row, hr, hm⟩
    · exact h.ed x y e
theorem SnOk.app {sn : List Int} (h : SnOk N sn) {t : Int} (ht : 0 ≤ t ∧ t < (N : Int)) (hn : t ∉ sn) : SnOk N (sn ++ [t]) := by
  refine ⟨?_, fun k hk => ?_⟩
  · rw [List.nodup_append]
    refine ⟨h.nd, by simp, fun a ha c hc => ?_⟩
    rw [List.mem_singleton.mp hc]
    exact fun z => hn (z ▸ ha)
  · rcases List.mem_append.mp hk with hk | hk
    · exact h.lt k hk
    · rw [List.mem_singleton.mp hk]; exact ht
/-- ahead of a step -/
structure Pre (rows : List (List Int)) (N : Nat) (tk : List (Int × Int)) (sn : List Int) (a : Int) : Prop where
  tko : TkOk rows N tk
  sno : SnOk N sn
  inj : ∀ k k' h, k ∉ sn → k' ∉ sn → lookT tk k = some h → lookT tk k' = some h → k = k'
  new : ∀ k, k ∉ sn → lookT tk k ≠ some a
structure PosT (rows : List (List Int)) (N : Nat) (tk : List (Int × Int)) (sn : List Int) (a : Int) (tk' : List (Int × Int)) : Prop where
  tko : TkOk rows N tk'
  same : ∀ k ∈ sn, lookT tk' k = lookT tk k
  inj : ∀ k k' h, k ∉ sn → k' ∉ sn → lookT tk' k = some h → lookT tk' k' = some h → k = k'
  val : ∀ h, (∃ k, k ∉ sn ∧ lookT tk' k = some h) ↔ (∃ k, k ∉ sn ∧ lookT tk k = some h) ∨ h = a
/-- what one comes to from there is looked at, too -/
def Clo (rows : List (List Int)) (tk : List (Int × Int)) (sn' : List Int) (k : Int) : Prop := ∃ h row, lookT tk k = some h ∧ atI rows h = some row ∧ ∀ t ∈ row, t ∈ sn'
structure PosF (rows : List (List Int)) (N : Nat) (tk : List (Int × Int)) (sn : List Int) (row : List Int) (sn' : List Int) : Prop where
  sno : SnOk N sn'
  sub : ∀ k ∈ sn, k ∈ sn'
  rowo : ∀ t ∈ row, t ∈ sn'
  clo : ∀ k ∈ sn', k ∈ sn ∨ Clo rows tk sn' k
def Spec (rows : List (List Int)) (N : Nat) (tk : List (Int × Int)) (sn : List Int) (a : Int) (row : List Int) : Option (Bool × List (Int × Int) × List Int) → Prop
  | some (true, tk', sn') => PosT rows N tk sn a tk'
  | some (false, tk', sn') => tk' = tk ∧ PosF rows N tk sn row sn'
  | none => False
theorem Pre.mono {tk : List (Int × Int)} {sn sn2 : List Int} {a : Int} (h : Pre rows N tk sn a) (hs : SnOk N sn2) (sub : ∀ k ∈ sn, k ∈ sn2) : Pre rows N tk sn2 a :=
  ⟨h.tko, hs, fun k k' x h1 h2 => h.inj k k' x (fun z => h1 (sub k z)) (fun z => h2 (sub k' z)), fun k h1 => h.new k fun z => h1 (sub k z)⟩
theorem PosT.weak {tk tk' : List (Int × Int)} {sn sn2 : List Int} {a : Int} (p : Pre rows N tk sn a) (h : PosT rows N tk sn2 a tk') (sub : ∀ k ∈ sn, k ∈ sn2) : PosT rows N tk sn a tk' := by
  have nsub : ∀ {k}, k ∉ sn2 → k ∉ sn := fun h z => h (sub _ z)
  have mix : ∀ k k' x, k ∈ sn2 → k ∉ sn → k' ∉ sn2 → lookT tk' k = some x → lookT tk' k' = some x → False := fun k k' x h1 h2 h3 e1 e2 => by
    rw [h.same k h1] at e1
    rcases (h.val x).mp ⟨k', h3, e2⟩ with ⟨k2, h4, e4⟩ | rfl
    · have := p.inj k k2 x h2 (nsub h4) e1 e4
      subst this
      exact h4 h1
    · exact p.new k h2 e1
  refine ⟨h.tko, fun k hk => h.same k (sub k hk), fun k k' x h1 h2 e1 e2 => ?_, fun x => ⟨?_, ?_⟩⟩
  · by_cases z1 : k ∈ sn2
    · by_cases z2 : k' ∈ sn2
      · rw [h.same k z1] at e1
        rw [h.same k' z2] at e2
        exact p.inj k k' x h1 h2 e1 e2
      · exact (mix k k' x z1 h1 z2 e1 e2).elim
    · by_cases z2 : k' ∈ sn2
      · exact (mix k' k x z2 h2 z1 e2 e1).elim
      · exact h.inj k k' x z1 z2 e1 e2
  · rintro ⟨k, h1, e1⟩
    by_cases z1 : k ∈ sn2
    · rw [h.same k z1] at e1
      exact .inl ⟨k, h1, e1⟩
    · rcases (h.val x).mp ⟨k, z1, e1⟩ with ⟨k2, h4, e4⟩ | rfl
      · exact .inl ⟨k2, nsub h4, e4⟩
      · exact .inr rfl
  · rintro (⟨k, h1, e1⟩ | rfl)
    · by_cases z1 : k ∈ sn2
      · exact ⟨k, h1, by rw [h.same k z1]; exact e1⟩
      · obtain ⟨k2, h4, e4⟩ := (h.val x).mpr (.inl ⟨k, z1, e1⟩)
        exact ⟨k2, nsub h4, e4⟩
    · obtain ⟨k2, h4, e4⟩ := (h.val x).mpr (.inr rfl)
      exact ⟨k2, nsub h4, e4⟩
theorem ffl_ok (hN : N ≤ 100) (hR : RowsOk rows N) {rec : List (Int × Int) → List Int → Int → Option (Bool × List (Int × Int) × List Int)} {a : Int} {full : List Int} (hf : atI rows a = some full)
    {c : Nat} (hrec : ∀ tk sn h row, Pre rows N tk sn h → atI rows h = some row → c + 1 ≤ sn.length → Spec rows N tk sn h row (rec tk sn h)) :
    ∀ (row : List Int) (tk : List (Int × Int)) (sn : List Int), (∀ t ∈ row, t ∈ full) → Pre rows N tk sn a → c ≤ sn.length → Spec rows N tk sn a row (ffl rec a row tk sn)
  | [], tk, sn, _, p, _ => ⟨rfl, p.sno, fun k h => h, fun t h => by simp at h, fun k h => .inl h⟩
  | t :: row, tk, sn, hsub, p, hc => by
    have hsub' : ∀ x ∈ row, x ∈ full := fun x hx => hsub x (List.mem_cons_of_mem _ hx)
    have htf := hsub t List.mem_cons_self
    have htN := hR a full hf t htf
    rw [ffl]
    by_cases hin : t ∈ sn
    · rw [if_pos hin]
      have ih := ffl_ok hN hR hf hrec row tk sn hsub' p hc
      revert ih
      generalize ffl rec a row tk sn = r
      intro ih
      match r, ih with
      | some (true, tk', sn'), ih => exact ih
      | some (false, tk', sn'), ih =>
        refine ⟨ih.1, ih.2.sno, ih.2.sub, fun x hx => ?_, ih.2.clo⟩
        rcases List.mem_cons.mp hx with rfl | hx
        · exact ih.2.sub _ hin
        · exact ih.2.rowo x hx
    · rw [if_neg hin, if_neg (by have := p.sno.len; have := p.tko.len; omega)]
      have hs1 := p.sno.app htN hin
      cases hl : lookT tk t with
      | none =>
        refine ⟨p.tko.put htN hf htf, fun k hk => ?_, fun k k' x h1 h2 e1 e2 => ?_, fun x => ⟨?_, ?_⟩⟩
        · rw [lookT_put, if_neg (show ¬ k = t from fun z => hin (z ▸ hk))]
        · rw [lookT_put] at e1 e2
          split at e1
          · rename_i z1
            cases e1
            split at e2
            · rename_i z2; omega
            · exact absurd e2 (p.new k' h2)
          · split at e2
            · cases e2
              exact absurd e1 (p.new k h1)
            · exact p.inj k k' x h1 h2 e1 e2
        · rintro ⟨k, h1, e1⟩
          rw [lookT_put] at e1
          split at e1
          · cases e1; exact .inr rfl
          · exact .inl ⟨k, h1, e1⟩
        · rintro (⟨k, h1, e1⟩ | rfl)
          · refine ⟨k, h1, ?_⟩
            rw [lookT_put, if_neg (fun z => by rw [z, hl] at e1; cases e1)]
            exact e1
          · exact ⟨t, hin, by rw [lookT_put, if_pos rfl]⟩
      | some h =>
        dsimp only
        obtain ⟨rowh, hrh, htr⟩ := p.tko.ed t h hl
        have n1 : ∀ {k}, k ∉ sn ++ [t] → k ∉ sn ∧ k ≠ t := fun hk => ⟨fun z => hk (List.mem_append.mpr (.inl z)), fun z => hk (List.mem_append.mpr (.inr (by simp [z])))⟩
        have n2 : ∀ {k}, k ∉ sn → k ≠ t → k ∉ sn ++ [t] := fun h1 h2 z => by
          rcases List.mem_append.mp z with z | z
          · exact h1 z
          · exact h2 (List.mem_singleton.mp z)
        have p1 : Pre rows N tk (sn ++ [t]) h := ⟨p.tko, hs1, fun k k' x h1 h2 => p.inj k k' x (n1 h1).1 (n1 h2).1, fun k h1 e1 => (n1 h1).2 (p.inj k t h (n1 h1).1 hin e1 hl)⟩
        have sp := hrec tk (sn ++ [t]) h rowh p1 hrh (by simp; omega)
        revert sp
        generalize rec tk (sn ++ [t]) h = r
        intro sp
        match r, sp with
        | some (false, tk2, sn2), ⟨e1, sp⟩ =>
          subst e1
          dsimp only
          have sub2 : ∀ k ∈ sn, k ∈ sn2 := fun k hk => sp.sub k (List.mem_append.mpr (.inl hk))
          have hlen : sn.length ≤ sn2.length := p.sno.nd.length_le_of_subset sub2
          have ih := ffl_ok hN hR hf hrec row tk2 sn2 hsub' (p.mono sp.sno sub2) (by omega)
          revert ih
          generalize ffl rec a row tk2 sn2 = r
          intro ih
          match r, ih with
          | some (true, tk', sn'), ih => exact PosT.weak p ih sub2
          | some (false, tk', sn'), ih =>
            refine ⟨ih.1, ih.2.sno, fun k hk => ih.2.sub k (sub2 k hk), fun x hx => ?_, fun k hk => ?_⟩
            · rcases List.mem_cons.mp hx with rfl | hx
              · exact ih.2.sub _ (sp.sub _ (List.mem_append.mpr (.inr (by simp))))
              · exact ih.2.rowo x hx
            · rcases ih.2.clo k hk with hk | hk
              · rcases sp.clo k hk with hk | ⟨h', row', g1, g2, g3⟩
                · rcases List.mem_append.mp hk with hk | hk
                  · exact .inl hk
                  · rw [List.mem_singleton.mp hk]
                    exact .inr ⟨h, rowh, hl, hrh, fun t ht => ih.2.sub t (sp.rowo t ht)⟩
                · exact .inr ⟨h', row', g1, g2, fun t ht => ih.2.sub t (g3 t ht)⟩
              · exact .inr hk
        | some (true, tk2, sn2), sp =>
          dsimp only
          have sp : PosT rows N tk (sn ++ [t]) h tk2 := sp
          rw [if_neg (by have := sp.tko.len; omega)]
          have ha : ∀ k, k ∉ sn ++ [t] → lookT tk2 k ≠ some a := fun k hk e1 => by
            rcases (sp.val a).mp ⟨k, hk, e1⟩ with ⟨k2, h4, e4⟩ | rfl
            · exact p.new k2 (n1 h4).1 e4
            · exact p.new t hin hl
          refine ⟨sp.tko.put htN hf htf, fun k hk => ?_, fun k k' x h1 h2 e1 e2 => ?_, fun x => ⟨?_, ?_⟩⟩
          · rw [lookT_put, if_neg (show ¬ k = t from fun z => hin (z ▸ hk))]
            exact sp.same k (List.mem_append.mpr (.inl hk))
          · rw [lookT_put] at e1 e2
            split at e1
            · rename_i z1
              cases e1
              split at e2
              · rename_i z2; omega
              · rename_i z2
                exact absurd e2 (ha k' (n2 h2 z2))
            · rename_i z1
              split at e2
              · cases e2
                exact absurd e1 (ha k (n2 h1 z1))
              · rename_i z2
                exact sp.inj k k' x (n2 h1 z1) (n2 h2 z2) e1 e2
          · rintro ⟨k, h1, e1⟩
            rw [lookT_put] at e1
            split at e1
            · cases e1; exact .inr rfl
            · rename_i z1
              rcases (sp.val x).mp ⟨k, n2 h1 z1, e1⟩ with ⟨k2, h4, e4⟩ | rfl
              · exact .inl ⟨k2, (n1 h4).1, e4⟩
              · exact .inl ⟨t, hin, hl⟩
          · rintro (⟨k, h1, e1⟩ | rfl)
            · have : ∃ k2, k2 ∉ sn ++ [t] ∧ lookT tk2 k2 = some x := by
                by_cases z1 : k = t
                · subst z1
                  rw [hl] at e1
                  cases e1
                  exact (sp.val h).mpr (.inr rfl)
                · exact (sp.val x).mpr (.inl ⟨k, n2 h1 z1, e1⟩)
              obtain ⟨k2, h4, e4⟩ := this
              exact ⟨k2, (n1 h4).1, by rw [lookT_put, if_neg (n1 h4).2]; exact e4⟩
            · exact ⟨t, hin, by rw [lookT_put, if_pos rfl]⟩
theorem ff_ok (hN : N ≤ 100) (hR : RowsOk rows N) : ∀ (n : Nat) (tk : List (Int × Int)) (sn : List Int) (a : Int) (row : List Int), Pre rows N tk sn a → atI rows a = some row → N + 1 ≤ n + sn.length → Spec rows N tk sn a row (ff rows n tk sn a)
  | 0, tk, sn, a, row, p, hr, hn => by
    exfalso
    have := p.sno.len
    omega
  | n + 1, tk, sn, a, row, p, hr, hn => by
    rw [ff, hr]
    dsimp only
    exact ffl_ok hN hR hr (c := N - n) (fun tk sn h row p hr hc => ff_ok hN hR n tk sn h row p hr (by omega)) row tk sn (fun t h => h) p (by omega)
end

section
variable {l m : List Br} {e : Int}
/-! ### all ways tried -/
def pairedF (l m : List Br) (e : Int) : Nat → Nat → List Nat → Bool
  | 0, _, us => (List.range m.length).all fun t => us.contains t || !longB e (atB m t)
  | k + 1, a, us => (!longB e (atB l a) && pairedF l m e k (a + 1) us) || (List.range m.length).any fun t => !us.contains t && fitB e (atB l a) (atB m t) && pairedF l m e k (a + 1) (us ++ [t])
def tryS (fmr : MF) : MS := (sIf (mAndT (mT (m2 (inG true) (mVar 5) (mVar 3))) (mT (mCall0 fm__law_fits (mCons (m2 ixG (mVar 0) (mVar 4)) (mCons (mVar 6) (mCons (mVar 2) mNil)))))) (sIf (mT (mCall0 fmr (mCons (mVar 0) (mCons (mVar 1) (mCons (mVar 2) (mCons (m2 addG (mVar 3) (mLst (mCons (mVar 5) mNil))) (mCons (m2 addG (mVar 4) (mC (.int 1))) mNil))))))) (sRet (mC (.bl true))) sSkip) sSkip)
theorem in_us (neg : Bool) (us : List Nat) (t : Nat) : inG neg (.int (t : Nat)) (.lst (us.map encI)) = some (.bl (neg ^^ us.contains t)) := by
  have := o_inN (neg := neg) (i := t) (l := us) (f := fun i => i)
  rwa [List.map_id'] at this
abbrev tryG : MG := gTp (gCn (gNm 5) (gCn (gNm 6) gNl))
theorem try_loop {fmr : MF} {k a : Nat} {us : List Nat} {b : Bag} (ha : a < l.length) (hz : us.length ≤ 1000) (hr : ∀ us' : List Nat, us'.length ≤ us.length + 1 → fmr [encL l, encL m, .int e, .lst (us'.map encI), encI (a + 1)] b = .ok (.bl (pairedF l m e k (a + 1) us')) b) :
    ∀ (js : List Nat) (s5 s6 : Sl), ∃ s5' s6', forL tryG (tryS fmr) (wayD m js) [.va (encL l), .va (encL m), .va (.int e), .va (.lst (us.map encI)), .va (encI a), s5, s6] b =
      if (js.any fun t => !us.contains t && fitB e (atB l a) (atB m t) && pairedF l m e k (a + 1) (us ++ [t])) = true then .rt (.bl true) b else .nx [.va (encL l), .va (encL m), .va (.int e), .va (.lst (us.map encI)), .va (encI a), s5', s6'] b
  | [], s5, s6 => ⟨s5, s6, by simp [wayD, forL]⟩
  | j :: js, s5, s6 => by
    obtain ⟨s5', s6', ih⟩ := try_loop ha hz hr js (.va (encI j)) (.va (encB (atB m j)))
    have hin := in_us true us j
    have hat := atB_get ha
    have z1 : us.length + 1 ≤ 100000 := by omega
    have hr1 := hr (us ++ [j]) (by simp)
    rw [List.map_append, List.map_cons, List.map_nil] at hr1
    have e1 : (encI (a + 1)) = .int ((a : Int) + 1) := by show D.int ((a + 1 : Nat) : Int) = _; congr 1
    rw [e1] at hr1
    refine ⟨s5', s6', ?_⟩
    by_cases hc : (!us.contains j && fitB e (atB l a) (atB m j) && pairedF l m e k (a + 1) (us ++ [j])) = true
    · rw [List.any_cons, hc, Bool.true_or, if_pos rfl]
      simp only [Bool.and_eq_true, Bool.not_eq_true'] at hc
      refine forL_rt (env1 := [.va (encL l), .va (encL m), .va (.int e), .va (.lst (us.map encI)), .va (encI a), .va (encI j), .va (encB (atB m j))]) rfl ?_
      rw [hc.2] at hr1
      have h1 : us.contains j = false := hc.1.1
      rw [h1] at hin
      simp only [encI, encL] at hin hat hr1 ⊢
      simp [tryS, hin, hat, v_law_fits, hc.1.2, z1, hr1]
    · have hcf : (!us.contains j && fitB e (atB l a) (atB m j) && pairedF l m e k (a + 1) (us ++ [j])) = false := by simpa using hc
      rw [List.any_cons, hcf, Bool.false_or]
      rw [← ih]
      refine forL_nx (env1 := [.va (encL l), .va (encL m), .va (.int e), .va (.lst (us.map encI)), .va (encI a), .va (encI j), .va (encB (atB m j))]) rfl ?_
      cases h1 : us.contains j with
      | true =>
        rw [h1] at hin
        simp only [encI, encL] at hin hat hr1 ⊢
        simp [tryS, hin]
      | false =>
        rw [h1] at hin hcf
        cases h2 : fitB e (atB l a) (atB m j) with
        | false =>
          simp only [encI, encL] at hin hat hr1 ⊢
          simp [tryS, hin, hat, v_law_fits, h2]
        | true =>
          rw [h2] at hcf
          have hcf : pairedF l m e k (a + 1) (us ++ [j]) = false := by simpa using hcf
          rw [hcf] at hr1
          simp only [encI, encL] at hin hat hr1 ⊢
          simp [tryS, hin, hat, v_law_fits, h2, z1, hr1]
theorem en_bars {m : List Br} {b : Bag} (hz : m.length ≤ 1000) : enK (encL m) b = .ok (wayD m (List.range m.length)) b := by
  unfold wayD
  rw [← enum_range]
  have z : (m.map encB).length ≤ 100000 := by simp; omega
  simp [enK, encL]
  try omega
set_option maxHeartbeats 1000000 in
theorem v_paired (hm : m.length ≤ 100) (b : Bag) : ∀ (k a : Nat) (us : List Nat) (n : Nat), a + k = l.length → us.length + k ≤ 1000 → k + 1 ≤ n → fmN__law_paired n [encL l, encL m, .int e, .lst (us.map encI), encI a] b = .ok (.bl (pairedF l m e k a us)) b
  | 0, a, us, n, hk, hz, hn => by
    obtain ⟨n, rfl⟩ : ∃ q, n = q + 1 := ⟨n - 1, by omega⟩
    have z1 : m.length ≤ 100000 := by omega
    have he : enumD 0 (m.map encB) = wayD m (List.range m.length) := enum_range m
    have h0 : (a : Int) = (l.length : Int) := by omega
    have lc := lc_all (g := tryG) (me := mOr (m2 (inG false) (mVar 5) (mVar 3)) (mNot (mCall0 fm__law_is_long (mCons (mVar 6) (mCons (mVar 2) mNil))))) (env := [.va (encL l), .va (encL m), .va (.int e), .va (.lst (us.map encI)), .va (encI a), .un, .un]) (b := b) (List.range m.length) (fun j => D.tup [encI j, encB (atB m j)]) (fun t => .bl (us.contains t || !longB e (atB m t))) fun t ht => ⟨_, rfl, by
      have hin := in_us false us t
      simp only [encI, Bool.false_xor] at hin ⊢
      simp only [e_mOr, e_m2, e_mVar0, e_mVarS, List.set_cons_succ, List.set_cons_zero, R.bind_ok, hin, R.opt_some, e_orK]
      cases us.contains t with
      | true => simp
      | false => simp [v_law_is_long]⟩
    have lc : lcL _ mYes _ _ (wayD m (List.range m.length)) b = _ := lc
    have hwl : (wayD m (List.range m.length)).length = m.length := by unfold wayD; simp
    simp only [encI] at lc ⊢
    simp only [fmN__law_paired, e_fnM, ms__law_paired]
    simp only [encL] at he lc ⊢
    simp only [h0] at lc
    unfold tryG at lc
    simp [h0, he, hwl, z1, lc, pairedF]
  | k + 1, a, us, n, hk, hz, hn => by
    obtain ⟨n, rfl⟩ : ∃ q, n = q + 1 := ⟨n - 1, by omega⟩
    have he : enumD 0 (m.map encB) = wayD m (List.range m.length) := enum_range m
    have h0 : ¬ (a : Int) = (l.length : Int) := by omega
    have ha : a < l.length := by omega
    have hat := atB_get ha
    have ih := fun (us' : List Nat) (h : us'.length ≤ us.length + 1) => v_paired hm b k (a + 1) us' n (by omega) (by omega) (by omega)
    obtain ⟨s5, s6, lp⟩ := try_loop (b := b) ha (by omega) ih (List.range m.length) .un .un
    have ih0 := ih us (by omega)
    have e1 : (encI (a + 1)) = .int ((a : Int) + 1) := by show D.int ((a + 1 : Nat) : Int) = _; congr 1
    rw [e1] at ih0
    rw [fmN__law_paired, e_fnM]
    unfold tryG tryS at lp
    simp only [encI, encL] at ih0 he hat lp ⊢
    simp [ms__law_paired, h0, hat, v_law_is_long]
    rw [pairedF]
    cases hlo : longB e (atB l a) with
    | true =>
      simp [he, lp]
      split <;> simp_all
    | false =>
      simp [ih0]
      cases hp : pairedF l m e k (a + 1) us with
      | true => simp
      | false =>
        simp [he, lp]
        split <;> simp_all
end

section
variable {l m : List Br} {e : Int}
/-- what all ways tried find -/
theorem paired_sound : ∀ (k a : Nat) (us : List Nat), a + k = l.length → pairedF l m e k a us = true → ∃ h : Nat → Option Nat, (∀ i v, h i = some v → a ≤ i ∧ i < l.length ∧ v < m.length ∧ fitB e (atB l i) (atB m v) = true ∧ v ∉ us) ∧ (∀ i j v, h i = some v → h j = some v → i = j) ∧ (∀ i, a ≤ i → i < l.length → longB e (atB l i) = true → ∃ v, h i = some v) ∧ (∀ t, t < m.length → longB e (atB m t) = true → t ∈ us ∨ ∃ i, h i = some t)
  | 0, a, us, hk, h => by
    refine ⟨fun _ => none, fun i v h => (by cases h), fun i j v h => (by cases h), fun i h1 h2 => (by omega), fun t ht hlo => .inl ?_⟩
    rw [pairedF, List.all_eq_true] at h
    have := h t (List.mem_range.mpr ht)
    rw [hlo] at this
    simpa using this
  | k + 1, a, us, hk, h => by
    rw [pairedF, Bool.or_eq_true] at h
    rcases h with h | h
    · rw [Bool.and_eq_true] at h
      obtain ⟨g, g1, g2, g3, g4⟩ := paired_sound k (a + 1) us (by omega) h.2
      refine ⟨g, fun i v e1 => ?_, g2, fun i h1 h2 h3 => ?_, g4⟩
      · have := g1 i v e1
        exact ⟨by omega, this.2⟩
      · by_cases z : i = a
        · subst z
          rw [h3] at h
          exact absurd h.1 (by decide)
        · exact g3 i (by omega) h2 h3
    · rw [List.any_eq_true] at h
      obtain ⟨t, ht, h⟩ := h
      simp only [Bool.and_eq_true, Bool.not_eq_true'] at h
      obtain ⟨⟨hu, hf⟩, hp⟩ := h
      have hu : t ∉ us := by simpa using hu
      obtain ⟨g, g1, g2, g3, g4⟩ := paired_sound k (a + 1) (us ++ [t]) (by omega) hp
      have g1n : ∀ i v, g i = some v → v ∉ us ∧ v ≠ t := fun i v e1 => ⟨fun z => (g1 i v e1).2.2.2.2 (List.mem_append.mpr (.inl z)), fun z => (g1 i v e1).2.2.2.2 (List.mem_append.mpr (.inr (by simp [z])))⟩
      refine ⟨fun i => if i = a then some t else g i, fun i v e1 => ?_, fun i j v e1 e2 => ?_, fun i h1 h2 h3 => ?_, fun x hx hlo => ?_⟩
      · dsimp only at e1
        split at e1
        · rename_i z
          cases e1
          subst z
          exact ⟨Nat.le_refl _, by omega, List.mem_range.mp ht, hf, hu⟩
        · have := g1 i v e1
          exact ⟨by omega, this.2.1, this.2.2.1, this.2.2.2.1, (g1n i v e1).1⟩
      · dsimp only at e1 e2
        split at e1
        · split at e2
          · omega
          · cases e1
            exact absurd rfl (g1n j t e2).2
        · split at e2
          · cases e2
            exact absurd rfl (g1n i t e1).2
          · exact g2 i j v e1 e2
      · by_cases z : i = a
        · exact ⟨t, if_pos z⟩
        · obtain ⟨v, hv⟩ := g3 i (by omega) h2 h3
          exact ⟨v, (if_neg z).trans hv⟩
      · rcases g4 x hx hlo with h | ⟨i, hi⟩
        · rcases List.mem_append.mp h with h | h
          · exact .inl h
          · rw [List.mem_singleton.mp h]
            exact .inr ⟨a, if_pos rfl⟩
        · have := g1 i x hi
          exact .inr ⟨i, (if_neg (by omega)).trans hi⟩
theorem paired_cov (h : pairedF l m e l.length 0 [] = true) : Cov l m e ∧ Cov m l e := by
  obtain ⟨g, g1, g2, g3, g4⟩ := paired_sound l.length 0 [] (by omega) h
  refine ⟨⟨fun i => (g i).getD 0, fun i hi hlo => ?_, fun i j hi hj h1 h2 z => ?_⟩, ?_⟩
  · obtain ⟨v, hv⟩ := g3 i (Nat.zero_le _) hi hlo
    have := g1 i v hv
    dsimp only
    rw [hv, Option.getD_some]
    exact ⟨this.2.2.1, this.2.2.2.1⟩
  · obtain ⟨v, hv⟩ := g3 i (Nat.zero_le _) hi h1
    obtain ⟨w, hw⟩ := g3 j (Nat.zero_le _) hj h2
    dsimp only at z
    rw [hv, hw, Option.getD_some, Option.getD_some] at z
    subst z
    exact g2 i j v hv hw
  · have g5 : ∀ t, ∃ i, t < m.length → longB e (atB m t) = true → g i = some t := fun t => by
      by_cases ht : t < m.length ∧ longB e (atB m t) = true
      · rcases g4 t ht.1 ht.2 with h | ⟨i, hi⟩
        · simp at h
        · exact ⟨i, fun _ _ => hi⟩
      · exact ⟨0, fun h1 h2 => absurd ⟨h1, h2⟩ ht⟩
    obtain ⟨f, hf⟩ := Classical.axiomOfChoice g5
    refine ⟨f, fun t ht hlo => ?_, fun i j hi hj h1 h2 z => ?_⟩
    · have := g1 _ _ (hf t ht hlo)
      exact ⟨this.2.1, by rw [fitB_comm]; exact this.2.2.2.1⟩
    · have e1 := hf i hi h1
      have e2 := hf j hj h2
      rw [z, e2] at e1
      exact (Option.some.inj e1).symm
def usedOf (ps : List (Nat × Nat)) (a : Nat) : List Nat := (List.range a).filterMap (lookN ps)
theorem usedOf_succ (ps : List (Nat × Nat)) (a : Nat) : usedOf ps (a + 1) = usedOf ps a ++ (lookN ps a).toList := by
  unfold usedOf
  rw [List.range_succ, List.filterMap_append]
  cases h : lookN ps a <;> simp [h]
theorem mem_used {ps : List (Nat × Nat)} {a t : Nat} : t ∈ usedOf ps a ↔ ∃ i, i < a ∧ lookN ps i = some t := by
  unfold usedOf
  rw [List.mem_filterMap]
  constructor
  · rintro ⟨i, hi, h⟩
    exact ⟨i, List.mem_range.mp hi, h⟩
  · rintro ⟨i, hi, h⟩
    exact ⟨i, List.mem_range.mpr hi, h⟩
theorem PairOk.inj {ps : List (Nat × Nat)} (h : PairOk l m e ps) {i j t : Nat} (h1 : lookN ps i = some t) (h2 : lookN ps j = some t) : i = j := by
  have := nodup_inj (f := fun p : Nat × Nat => p.2) h.n2 (i, t) (look_mem h1) (j, t) (look_mem h2) rfl
  exact (Prod.mk.inj this).1
theorem paired_complete {ps : List (Nat × Nat)} (h : PairOk l m e ps) : ∀ (k a : Nat), a + k = l.length → pairedF l m e k a (usedOf ps a) = true
  | 0, a, hk => by
    rw [pairedF, List.all_eq_true]
    intro t ht
    cases hlo : longB e (atB m t) with
    | false => simp
    | true =>
      obtain ⟨p, hp, rfl⟩ := List.mem_map.mp (h.l2 t (List.mem_range.mp ht) hlo)
      have : p.2 ∈ usedOf ps a := mem_used.mpr ⟨p.1, by have := (h.lt p hp).1; omega, mem_look h.n1 hp⟩
      simp [this]
  | k + 1, a, hk => by
    have ih := paired_complete h k (a + 1) (by omega)
    rw [usedOf_succ] at ih
    rw [pairedF, Bool.or_eq_true]
    cases hl : lookN ps a with
    | none =>
      rw [hl] at ih
      have ih : pairedF l m e k (a + 1) (usedOf ps a) = true := by simpa using ih
      left
      rw [ih, Bool.and_true]
      cases hlo : longB e (atB l a) with
      | false => rfl
      | true => exact absurd (h.l1 a (by omega) hlo) (look_none.mp hl)
    | some t =>
      rw [hl] at ih
      have ih : pairedF l m e k (a + 1) (usedOf ps a ++ [t]) = true := ih
      right
      rw [List.any_eq_true]
      have hm := look_mem hl
      have h1 := (h.lt _ hm).2
      have h2 := h.fit _ hm
      dsimp only at h1 h2
      refine ⟨t, List.mem_range.mpr h1, ?_⟩
      rw [ih, h2]
      have : t ∉ usedOf ps a := fun z => by
        obtain ⟨i, hi, e1⟩ := mem_used.mp z
        have := h.inj e1 hl
        omega
      simp [this]
/-! ### all found -/
def rowsF (l m : List Br) (e : Int) : List (List Int) := l.map fun x => ((List.range m.length).filter fun j => fitB e x (atB m j)).map fun j : Nat => (j : Int)
theorem row_at {a : Nat} (ha : a < l.length) : atI (rowsF l m e) (a : Int) = some (((List.range m.length).filter fun j => fitB e (atB l a) (atB m j)).map fun j : Nat => (j : Int)) := by
  refine atI_nat ?_
  unfold rowsF
  rw [List.getElem?_map, List.getElem?_eq_getElem ha]
  have : atB l a = l[a] := by
    unfold atB
    rw [List.getD_eq_getElem?_getD, List.getElem?_eq_getElem ha]
    rfl
  rw [this]
  rfl
theorem row_in {a : Int} {row : List Int} (h : atI (rowsF l m e) a = some row) : ∀ t ∈ row, 0 ≤ t ∧ t < (m.length : Int) := by
  have h2 : row ∈ rowsF l m e := by
    unfold atI at h
    cases hx : ixN (rowsF l m e).length a with
    | none => rw [hx] at h; cases h
    | some j => rw [hx] at h; exact List.mem_of_getElem? h
  unfold rowsF at h2
  obtain ⟨x, _, rfl⟩ := List.mem_map.mp h2
  intro t ht
  obtain ⟨j, hj, rfl⟩ := List.mem_map.mp ht
  have := List.mem_range.mp (List.mem_filter.mp hj).1
  omega
def rowsE (l m : List Br) (e : Int) : D := .lst (l.map fun x => .lst (((List.range m.length).filter fun j => fitB e x (atB m j)).map encI))
theorem intL_enc (js : List Nat) : intL (js.map encI) = some (js.map fun j : Nat => (j : Int)) := by
  induction js with
  | nil => rfl
  | cons j js ih =>
    rw [List.map_cons]
    show (intL (js.map encI)).map _ = _
    rw [ih]
    rfl
theorem rowsD_enc : rowsD (rowsE l m e) = some (rowsF l m e) := by
  show rowsL _ = _
  unfold rowsF
  induction l with
  | nil => rfl
  | cons x l ih =>
    rw [List.map_cons, List.map_cons]
    show (match intL _, rowsL _ with | some r, some rs => some (r :: rs) | _, _ => none) = _
    rw [intL_enc, ih]
theorem tkD_enc (tk : List (Int × Int)) : tkD (tkKs tk) (tkDs tk) = some tk := by
  induction tk with
  | nil => rfl
  | cons p tk ih =>
    show (tkD (tkKs tk) (tkDs tk)).map _ = _
    rw [ih]
    rfl
def foundS : MS := (sIfFF 30 5 3 4 (mT (mCall0 fm__law_is_long (mCons (mVar 6) (mCons (mVar 2) mNil)))))
theorem e_foundS {x0 x1 s7 s8 : Sl} {x : Br} {j : Nat} {tk : List (Int × Int)} {b : Bag} :
    foundS [x0, x1, .va (.int e), .va (rowsE l m e), .oK (tkKs tk) (tkDs tk), .va (encI j), .va (encB x), s7, s8] b = if longB e x = true then ffO [x0, x1, .va (.int e), .va (rowsE l m e), .oK (tkKs tk) (tkDs tk), .va (encI j), .va (encB x), s7, s8] 4 b (ff (rowsF l m e) 30 tk [] (j : Int)) else .nx [x0, x1, .va (.int e), .va (rowsE l m e), .oK (tkKs tk) (tkDs tk), .va (encI j), .va (encB x), s7, s8] b := by
  unfold foundS sIfFF
  simp [v_law_is_long]
  split
  · show ffM 30 4 _ b (j : Int) (rowsD (rowsE l m e)) (tkD (tkKs tk) (tkDs tk)) = _
    rw [rowsD_enc, tkD_enc]
    rfl
  · rfl
/-- what is held so far -/
structure Held (l m : List Br) (e : Int) (j : Nat) (tk : List (Int × Int)) : Prop where
  ok : TkOk (rowsF l m e) m.length tk
  inj : ∀ k k' h, lookT tk k = some h → lookT tk k' = some h → k = k'
  val : ∀ h, (∃ k, lookT tk k = some h) ↔ ∃ i : Nat, h = (i : Int) ∧ i < j ∧ longB e (atB l i) = true
theorem held_no {a : Nat} (ha : a < l.length) (hlo : longB e (atB l a) = true) {tk : List (Int × Int)} {sn row : List Int} (hh : Held l m e a tk) (hrow : atI (rowsF l m e) (a : Int) = some row) (p : PosF (rowsF l m e) m.length tk [] row sn) : ¬ Cov l m e := by
  rintro ⟨g, g1, g2⟩
  -- those that hold what was seen, and a
  have hk : ∀ k ∈ sn, ∃ i : Nat, lookT tk k = some (i : Int) ∧ i < a ∧ longB e (atB l i) = true ∧ ∀ t, t < m.length → fitB e (atB l i) (atB m t) = true → (t : Int) ∈ sn := fun k hk => by
    rcases p.clo k hk with z | ⟨h, row', h1, h2, h3⟩
    · simp at z
    · obtain ⟨i, rfl, hi, hlo'⟩ := (hh.val h).mp ⟨k, h1⟩
      refine ⟨i, h1, hi, hlo', fun t ht hf => h3 _ ?_⟩
      rw [row_at (by omega)] at h2
      cases h2
      exact List.mem_map.mpr ⟨t, List.mem_filter.mpr ⟨List.mem_range.mpr ht, hf⟩, rfl⟩
  have hk2 : ∀ k, ∃ i : Nat, k ∈ sn → lookT tk k = some (i : Int) ∧ i < a ∧ longB e (atB l i) = true ∧ ∀ t, t < m.length → fitB e (atB l i) (atB m t) = true → (t : Int) ∈ sn := fun k => by
    by_cases z : k ∈ sn
    · obtain ⟨i, h⟩ := hk k z
      exact ⟨i, fun _ => h⟩
    · exact ⟨0, fun h => absurd h z⟩
  obtain ⟨o, ho⟩ := Classical.axiomOfChoice hk2
  have hra : ∀ t, t < m.length → fitB e (atB l a) (atB m t) = true → (t : Int) ∈ sn := fun t ht hf => p.rowo _ (by
    rw [row_at ha] at hrow
    cases hrow
    exact List.mem_map.mpr ⟨t, List.mem_filter.mpr ⟨List.mem_range.mpr ht, hf⟩, rfl⟩)
  have nd : (((a :: sn.map o).map g).map fun j : Nat => (j : Int)).Nodup := by
    have n1 : (a :: sn.map o).Nodup := by
      rw [List.nodup_cons]
      refine ⟨fun z => ?_, ?_⟩
      · obtain ⟨k, hk, z⟩ := List.mem_map.mp z
        have := (ho k hk).2.1
        omega
      · have := p.sno.nd
        unfold List.Nodup at this ⊢
        rw [List.pairwise_map]
        refine (List.Pairwise.and_mem.mp this).imp fun {x y} hxy z => ?_
        have e1 := (ho x hxy.1).1
        have e2 := (ho y hxy.2.1).1
        rw [← z] at e2
        exact hxy.2.2 (hh.inj x y _ e1 e2)
    have all : ∀ i ∈ a :: sn.map o, i < l.length ∧ longB e (atB l i) = true := fun i hi => by
      rcases List.mem_cons.mp hi with rfl | hi
      · exact ⟨ha, hlo⟩
      · obtain ⟨k, hk, rfl⟩ := List.mem_map.mp hi
        have := ho k hk
        exact ⟨by omega, this.2.2.1⟩
    unfold List.Nodup at n1 ⊢
    rw [List.pairwise_map, List.pairwise_map]
    refine (List.Pairwise.and_mem.mp n1).imp fun {x y} hxy z => ?_
    exact hxy.2.2 (g2 x y (all x hxy.1).1 (all y hxy.2.1).1 (all x hxy.1).2 (all y hxy.2.1).2 (by omega))
  have sub : (((a :: sn.map o).map g).map fun j : Nat => (j : Int)) ⊆ sn := fun x hx => by
    obtain ⟨j, hj, rfl⟩ := List.mem_map.mp hx
    obtain ⟨i, hi, rfl⟩ := List.mem_map.mp hj
    rcases List.mem_cons.mp hi with rfl | hi
    · have := g1 i ha hlo
      exact hra _ this.1 this.2
    · obtain ⟨k, hk, rfl⟩ := List.mem_map.mp hi
      have h := ho k hk
      have := g1 (o k) (by omega) h.2.2.1
      exact h.2.2.2 _ this.1 this.2
  have := nd.length_le_of_subset sub
  simp at this
  omega
abbrev fndG : MG := gTp (gCn (gNm 5) (gCn (gNm 6) gNl))
theorem fnd_loop (hm : m.length ≤ 20) {x0 x1 s7 s8 : Sl} {b : Bag} : ∀ (n a : Nat) (tk : List (Int × Int)) (s5 s6 : Sl), a + n = l.length → Held l m e a tk →
    (∃ tk' s5' s6', forL fndG foundS (wayD l ((List.range' a n))) [x0, x1, .va (.int e), .va (rowsE l m e), .oK (tkKs tk) (tkDs tk), s5, s6, s7, s8] b = .nx [x0, x1, .va (.int e), .va (rowsE l m e), .oK (tkKs tk') (tkDs tk'), s5', s6', s7, s8] b ∧ Held l m e l.length tk') ∨
    (forL fndG foundS (wayD l ((List.range' a n))) [x0, x1, .va (.int e), .va (rowsE l m e), .oK (tkKs tk) (tkDs tk), s5, s6, s7, s8] b = .rt (.bl false) b ∧ ¬ Cov l m e)
  | 0, a, tk, s5, s6, hn, hh => .inl ⟨tk, s5, s6, rfl, by rw [← hn, Nat.add_zero]; exact hh⟩
  | n + 1, a, tk, s5, s6, hn, hh => by
    have ha : a < l.length := by omega
    have es := e_foundS (l := l) (m := m) (e := e) (x0 := x0) (x1 := x1) (s7 := s7) (s8 := s8) (x := atB l a) (j := a) (tk := tk) (b := b)
    rw [List.range'_succ]
    have go : ∀ tk', Held l m e (a + 1) tk' → foundS [x0, x1, .va (.int e), .va (rowsE l m e), .oK (tkKs tk) (tkDs tk), .va (encI a), .va (encB (atB l a)), s7, s8] b = .nx [x0, x1, .va (.int e), .va (rowsE l m e), .oK (tkKs tk') (tkDs tk'), .va (encI a), .va (encB (atB l a)), s7, s8] b →
        (∃ tk' s5' s6', forL fndG foundS (wayD l (a :: (List.range' (a + 1) n))) [x0, x1, .va (.int e), .va (rowsE l m e), .oK (tkKs tk) (tkDs tk), s5, s6, s7, s8] b = .nx [x0, x1, .va (.int e), .va (rowsE l m e), .oK (tkKs tk') (tkDs tk'), s5', s6', s7, s8] b ∧ Held l m e l.length tk') ∨
        (forL fndG foundS (wayD l (a :: (List.range' (a + 1) n))) [x0, x1, .va (.int e), .va (rowsE l m e), .oK (tkKs tk) (tkDs tk), s5, s6, s7, s8] b = .rt (.bl false) b ∧ ¬ Cov l m e) := fun tk' h1 h2 => by
      have st := forL_nx (g := fndG) (d := .tup [encI a, encB (atB l a)]) (ds := wayD l (List.range' (a + 1) n)) (env := [x0, x1, .va (.int e), .va (rowsE l m e), .oK (tkKs tk) (tkDs tk), s5, s6, s7, s8]) rfl h2
      rcases fnd_loop hm n (a + 1) tk' (.va (encI a)) (.va (encB (atB l a))) (by omega) h1 with ⟨tk2, t5, t6, e1, e2⟩ | ⟨e1, e2⟩
      · exact .inl ⟨tk2, t5, t6, st.trans e1, e2⟩
      · exact .inr ⟨st.trans e1, e2⟩
    cases hlo : longB e (atB l a) with
    | false =>
      rw [hlo, if_neg (by decide)] at es
      refine go tk ⟨hh.ok, hh.inj, fun h => ?_⟩ es
      rw [hh.val]
      constructor
      · rintro ⟨i, h1, h2, h3⟩
        exact ⟨i, h1, by omega, h3⟩
      · rintro ⟨i, h1, h2, h3⟩
        refine ⟨i, h1, ?_, h3⟩
        by_cases z : i = a
        · rw [z, hlo] at h3; cases h3
        · omega
    | true =>
      rw [hlo, if_pos rfl] at es
      have pre : Pre (rowsF l m e) m.length tk [] (a : Int) := ⟨hh.ok, ⟨by simp, fun k h => by simp at h⟩, fun k k' h _ _ => hh.inj k k' h, fun k _ e1 => by
        obtain ⟨i, h1, h2, _⟩ := (hh.val _).mp ⟨k, e1⟩
        omega⟩
      have hrow := row_at (m := m) (e := e) ha
      have sp := ff_ok (by omega) (fun a row h => row_in h) 30 tk [] (a : Int) _ pre hrow (by simp; omega)
      revert sp es
      generalize ff (rowsF l m e) 30 tk [] (a : Int) = r
      intro es sp
      match r, es, sp with
      | some (false, tk', sn'), es, ⟨e1, sp⟩ =>
        subst e1
        exact .inr ⟨forL_rt (g := fndG) (d := .tup [encI a, encB (atB l a)]) (ds := wayD l (List.range' (a + 1) n)) (env := [x0, x1, .va (.int e), .va (rowsE l m e), .oK (tkKs tk') (tkDs tk'), s5, s6, s7, s8]) rfl es, held_no ha hlo hh hrow sp⟩
      | some (true, tk', sn'), es, sp =>
        have sp : PosT (rowsF l m e) m.length tk [] (a : Int) tk' := sp
        refine go tk' ⟨sp.tko, fun k k' h => sp.inj k k' h (by simp) (by simp), fun h => ?_⟩ es
        have := sp.val h
        constructor
        · rintro ⟨k, e1⟩
          rcases this.mp ⟨k, by simp, e1⟩ with ⟨k2, _, e2⟩ | rfl
          · obtain ⟨i, h1, h2, h3⟩ := (hh.val h).mp ⟨k2, e2⟩
            exact ⟨i, h1, by omega, h3⟩
          · exact ⟨a, rfl, by omega, hlo⟩
        · rintro ⟨i, h1, h2, h3⟩
          have : (∃ k, k ∉ ([] : List Int) ∧ lookT tk' k = some h) := this.mpr (by
            by_cases z : i = a
            · right; omega
            · left
              obtain ⟨k, e1⟩ := (hh.val h).mpr ⟨i, h1, by omega, h3⟩
              exact ⟨k, by simp, e1⟩)
          obtain ⟨k, _, e1⟩ := this
          exact ⟨k, e1⟩
theorem held_cov {tk : List (Int × Int)} (h : Held l m e l.length tk) : Cov l m e := by
  have hk : ∀ i, ∃ t : Nat, i < l.length → longB e (atB l i) = true → lookT tk (t : Int) = some (i : Int) ∧ t < m.length ∧ fitB e (atB l i) (atB m t) = true := fun i => by
    by_cases z : i < l.length ∧ longB e (atB l i) = true
    · obtain ⟨k, e1⟩ := (h.val (i : Int)).mpr ⟨i, rfl, z.1, z.2⟩
      obtain ⟨row, h1, h2⟩ := h.ok.ed k _ e1
      rw [row_at z.1] at h1
      cases h1
      obtain ⟨t, ht, rfl⟩ := List.mem_map.mp h2
      have := List.mem_filter.mp ht
      exact ⟨t, fun _ _ => ⟨e1, List.mem_range.mp this.1, this.2⟩⟩
    · exact ⟨0, fun h1 h2 => absurd ⟨h1, h2⟩ z⟩
  obtain ⟨g, hg⟩ := Classical.axiomOfChoice hk
  refine ⟨g, fun i hi hlo => (hg i hi hlo).2, fun i j hi hj h1 h2 z => ?_⟩
  have e1 := (hg i hi h1).1
  have e2 := (hg j hj h2).1
  rw [z, e2] at e1
  have := Option.some.inj e1
  omega
end

section
variable {l m : List Br} {e : Int}
theorem v_all_found (hl : l.length ≤ 20) (hm : m.length ≤ 20) (b : Bag) : ∃ k : Bool, fm__law_all_found [encL l, encL m, .int e] b = .ok (.bl k) b ∧ (k = true ↔ Cov l m e) := by
  have z1 : l.length ≤ 100000 := by omega
  have z2 : m.length ≤ 100000 := by omega
  have hwm : (wayD m (List.range m.length)).length = m.length := by unfold wayD; simp
  have em : enumD 0 (m.map encB) = wayD m (List.range m.length) := enum_range m
  have el : enumD 0 (l.map encB) = wayD l (List.range l.length) := enum_range l
  have hr : List.range l.length = List.range' 0 l.length := List.range_eq_range'
  have lc := lc_all (g := gNm 7) (me := (mLc (mEnumL (mVar 1)) (gTp (gCn (gNm 8) (gCn (gNm 6) gNl))) (mT (mCall0 fm__law_fits (mCons (mVar 7) (mCons (mVar 6) (mCons (mVar 2) mNil))))) (mVar 8) [8, 6])) (env := [.va (encL l), .va (encL m), .va (.int e), .un, .un, .un, .un, .un, .un]) (b := b) l encB (fun x => .lst (((List.range m.length).filter fun j => fitB e x (atB m j)).map encI)) fun x hx => ⟨_, rfl, by
    have lc2 := lc_pure (g := gTp (gCn (gNm 8) (gCn (gNm 6) gNl))) (mt := mT (mCall0 fm__law_fits (mCons (mVar 7) (mCons (mVar 6) (mCons (mVar 2) mNil))))) (me := mVar 8) (env := [.va (encL l), .va (encL m), .va (.int e), .un, .un, .un, .un, .va (encB x), .un]) (b := b) (List.range m.length) (fun j => D.tup [encI j, encB (atB m j)]) (fun j => fitB e x (atB m j)) encI fun j hj => ⟨_, rfl, by simp [v_law_fits], fun _ => rfl⟩
    have lc2 : lcL _ _ _ _ (wayD m (List.range m.length)) b = _ := lc2
    simp only [encL] at lc2 ⊢
    simp [em, hwm, z2, lc2]⟩
  have h0 : Held l m e 0 [] := ⟨⟨by simp, fun k h => by simp at h, fun k h e1 => (by cases e1)⟩, fun k k' h e1 => (by cases e1), fun h => ⟨fun ⟨k, e1⟩ => (by cases e1), fun ⟨i, _, h2, _⟩ => (by omega)⟩⟩
  have hr0 : (D.lst (l.map fun x => D.lst (((List.range m.length).filter fun j => fitB e x (atB m j)).map encI))) = rowsE l m e := rfl
  have hk0 : tkKs [] = [] := rfl
  have hd0 : tkDs [] = [] := rfl
  rcases fnd_loop hm (x0 := .va (encL l)) (x1 := .va (encL m)) (s7 := .un) (s8 := .un) (b := b) l.length 0 [] .un .un (by omega) h0 with ⟨tk, s5, s6, e1, e2⟩ | ⟨e1, e2⟩
  · refine ⟨true, ?_, ⟨fun _ => held_cov e2, fun _ => rfl⟩⟩
    unfold fndG foundS at e1
    rw [hk0, hd0, ← hr] at e1
    simp only [encL] at lc e1 ⊢
    simp [fm__law_all_found, e_fnM, ms__law_all_found, z1, lc, hr0, el, e1]
  · refine ⟨false, ?_, ⟨fun h => (by cases h), fun h => absurd h e2⟩⟩
    unfold fndG foundS at e1
    rw [hk0, hd0, ← hr] at e1
    simp only [encL] at lc e1 ⊢
    simp [fm__law_all_found, e_fnM, ms__law_all_found, z1, lc, hr0, el, e1]
/-- it tells whether there is a pairing -/
theorem v_is_there (hl : l.length ≤ 20) (hm : m.length ≤ 20) (b : Bag) {x y : D} (ht : Told l m e x y) : fm__law_is_there [encL l, encL m, .int e] b = .ok (.bl (!isNonD x)) b := by
  have hcov : isNonD x = true → ¬ (Cov l m e ∧ Cov m l e) := fun h => by
    cases ht with
    | pair ps => cases h
    | ban i L hi hg =>
      rintro ⟨c1, c2⟩
      rcases hi with rfl | rfl
      · exact no_cov (l := l) (m := m) hg c1
      · exact no_cov (l := m) (m := l) hg c2
  have hcov2 : isNonD x = false → ∃ ps, PairOk l m e ps := fun h => by
    cases ht with
    | pair ps hg hp hz => exact ⟨ps, .of hg hp⟩
    | ban i L hi hg => cases h
  by_cases hs : l.length < 5 ∧ m.length < 5
  · have h1 : (l.length : Int) < 5 := by omega
    have h2 : (m.length : Int) < 5 := by omega
    have hp := v_paired (l := l) (m := m) (e := e) (by omega) b l.length 0 [] 6 (by omega) (by simp; omega) (by omega)
    have hk : pairedF l m e l.length 0 [] = !isNonD x := by
      cases hx : isNonD x with
      | true =>
        cases hpf : pairedF l m e l.length 0 [] with
        | false => rfl
        | true => exact absurd (paired_cov hpf) (hcov hx)
      | false =>
        obtain ⟨ps, hps⟩ := hcov2 hx
        exact paired_complete hps l.length 0 (by omega)
    rw [hk] at hp
    have hp : fm__law_paired [encL l, encL m, .int e, .lst [], .int 0] b = .ok (.bl (!isNonD x)) b := hp
    simp only [encL] at hp ⊢
    simp [fm__law_is_there, e_fnM, ms__law_is_there, h1, h2, hp]
  · obtain ⟨k1, e1, c1⟩ := v_all_found (l := l) (m := m) (e := e) hl hm b
    obtain ⟨k2, e2, c2⟩ := v_all_found (l := m) (m := l) (e := e) hm hl b
    have hk : (k1 && k2) = !isNonD x := by
      cases hx : isNonD x with
      | true =>
        have := hcov hx
        cases k1 with
        | false => rfl
        | true =>
          cases k2 with
          | false => rfl
          | true => exact absurd ⟨c1.mp rfl, c2.mp rfl⟩ this
      | false =>
        obtain ⟨ps, hps⟩ := hcov2 hx
        rw [c1.mpr hps.cov, c2.mpr hps.swap.cov]
        rfl
    have hs' : ¬ ((l.length : Int) < 5 ∧ (m.length : Int) < 5) := by omega
    rw [← hk]
    simp only [encL] at e1 e2 ⊢
    by_cases h1 : (l.length : Int) < 5
    · have h2 : ¬ (m.length : Int) < 5 := fun z => hs' ⟨h1, z⟩
      cases k1 <;> simp [fm__law_is_there, e_fnM, ms__law_is_there, e1, e2, h1, h2]
    · cases k1 <;> simp [fm__law_is_there, e_fnM, ms__law_is_there, e1, e2, h1]
theorem told_bd {x y : D} (ht : Told l m e x y) : Bd 2 x ∧ Bd 2 y := by
  cases ht with
  | pair ps hg hp hz =>
    refine ⟨.tup fun d hd => ?_, .non _⟩
    obtain ⟨p, _, rfl⟩ := List.mem_map.mp hd
    exact .tup fun d hd => by
      simp at hd
      rcases hd with rfl | rfl <;> exact .int _ _
  | ban i L hi hg =>
    refine ⟨.non _, .tup fun d hd => ?_⟩
    simp at hd
    rcases hd with rfl | rfl
    · exact .int _ _
    · refine .tup fun d hd => ?_
      obtain ⟨p, _, rfl⟩ := List.mem_map.mp hd
      exact .int _ _
theorem v_right (h : Asked l m e) (b : Bag) {x y : D} (ht : Told l m e x y) : fm__law_right [encL l, encL m, .int e, x, y] b = .ok (.bl true) b := by
  have it := v_is_there h.l2 h.m2 b ht
  cases ht with
  | pair ps hg hp hz =>
    have h1 := v_is_pairing (b := b) h hp (by omega)
    have h2 := v_law_is_pairing (b := b) h hp (by omega)
    rw [hg] at h1
    rw [← good_eq, hg] at h2
    have z : isNonD (.tup (ps.map encN)) = false := rfl
    rw [z] at it
    simp only [encL] at it h1 h2 ⊢
    simp [fm__law_right, e_fnM, ms__law_right, it, h1, h2, z]
  | ban i L hi hg =>
    have hm' : (if i = 0 then m else l).length ≤ 1000 := by have := h.l2; have := h.m2; split <;> omega
    have h1 : fm_is_ban [encL l, encL m, .int e, .tup [.int i, .tup (L.map encI)]] b = .ok (.bl true) b := by
      rw [v_is_ban_in h hi, tail_ok hg.lt hg.z hm', hg.g]
      rfl
    have h2 : fm__law_is_ban [encL l, encL m, .int e, .tup [.int i, .tup (L.map encI)]] b = .ok (.bl true) b := by
      obtain ⟨k, hk⟩ := ban_both (d := .tup [.int i, .tup (L.map encI)]) h (.tup (by
        intro d hd
        simp at hd
        rcases hd with rfl | rfl
        · exact .int _
        · refine .tup fun d hd => ?_
          obtain ⟨p, _, rfl⟩ := List.mem_map.mp hd
          exact .int _)) (fun x ds e => by
        cases e
        rw [List.length_map]
        exact hg.z)
      rw [(hk b).1] at h1
      rw [(hk b).2]
      exact h1
    have z : isNonD (.tup [.int i, .tup (L.map encI)]) = false := rfl
    have z2 : isNonD .non = true := rfl
    rw [z2] at it
    simp only [encL] at it h1 h2 ⊢
    simp [fm__law_right, e_fnM, ms__law_right, it, h1, h2, z]
end

section
variable {l m : List Br} {e : Int} {dl dm : D}
/-- there is a pairing -/
def Pr (l m : List Br) (e : Int) : Prop := ∃ ps, PairOk l m e ps
theorem told_pr {x y : D} (ht : Told l m e x y) : isNonD x = false ↔ Pr l m e := by
  cases ht with
  | pair ps hg hp hz => exact ⟨fun _ => ⟨ps, .of hg hp⟩, fun _ => rfl⟩
  | ban i L hi hg =>
    refine ⟨fun h => (by cases h), fun ⟨ps, h⟩ => ?_⟩
    rcases hi with rfl | rfl
    · exact absurd h.cov (no_cov (l := l) (m := m) hg)
    · exact absurd h.swap.cov (no_cov (l := m) (m := l) hg)
theorem told_ban {x y : D} (ht : Told l m e x y) : isNonD y = !isNonD x := by
  cases ht <;> rfl
theorem fit_mono {e' : Int} (he : e ≤ e') {x y : Br} (h : fitB e x y = true) : fitB e' x y = true := by
  obtain ⟨x1, x2⟩ := x
  obtain ⟨y1, y2⟩ := y
  unfold fitB at h ⊢
  cases x2 <;> cases y2 <;> simp at h ⊢ <;> omega
theorem long_mono {e' : Int} (he : e ≤ e') {x : Br} (h : longB e' x = true) : longB e x = true := by
  obtain ⟨x1, x2⟩ := x
  unfold longB at h ⊢
  cases x2 <;> simp at h ⊢ <;> omega
theorem Pr.mono {e' : Int} (he : e ≤ e') (h : Pr l m e) : Pr l m e' := by
  obtain ⟨ps, h⟩ := h
  exact ⟨ps, h.n1, h.n2, fun p hp => fit_mono he (h.fit p hp), h.lt, fun i hi hlo => h.l1 i hi (long_mono he hlo), fun i hi hlo => h.l2 i hi (long_mono he hlo)⟩
theorem Pr.swap (h : Pr l m e) : Pr m l e := by
  obtain ⟨ps, h⟩ := h
  exact ⟨_, h.swap⟩
/-- the least, or none -/
inductive Least (p : Int → Prop) : D → Prop
  | none (h : ¬ p 2000) : Least p .non
  | some (e : Int) (h0 : 0 ≤ e) (h1 : e ≤ 2000) (h : p e) (hl : ∀ i, 0 ≤ i → i < e → ¬ p i) : Least p (.int e)
theorem Least.uniq {p q : Int → Prop} (hm : ∀ i j, i ≤ j → p i → p j) (hpq : ∀ i, p i ↔ q i) {x y : D} (hx : Least p x) (hy : Least q y) : x = y := by
  cases hx with
  | none h =>
    cases hy with
    | none _ => rfl
    | some e h0 h1 h2 _ => exact absurd (hm e 2000 h1 ((hpq e).mpr h2)) h
  | some e h0 h1 h2 h3 =>
    cases hy with
    | none h => exact absurd ((hpq _).mp (hm e 2000 h1 h2)) h
    | some e' h0' h1' h2' h3' =>
      congr 1
      have a1 : ¬ e < e' := fun z => h3' e h0 z ((hpq e).mp h2)
      have a2 : ¬ e' < e := fun z => h3 e' h0' z ((hpq e').mpr h2')
      omega
def nearT : MT := (mT (m2 gtG (m2 subG (mVar 3) (mVar 2)) (mC (.int 1))))
def nearS : MS := (sSeq (sAsg (gNm 4) (m2 divG (m2 addG (mVar 2) (mVar 3)) (mC (.int 2)))) (sIf (mT (m2 isG (m2 ixG (mCall0 fm_paired_or_banned (mCons (mVar 0) (mCons (mVar 1) (mCons (mVar 4) mNil)))) (mC (.int 0))) (mC .non))) (sAsg (gNm 2) (mVar 4)) (sAsg (gNm 3) (mVar 4))))
theorem near_loop (hl : IsBars dl l) (hm : IsBars dm m) (zl : l.length ≤ 20) (zm : m.length ≤ 20) {b : Bag} : ∀ (n : Nat) (lo hi : Int) (s4 : Sl), -1 ≤ lo → lo < hi → hi ≤ 2000 → hi - lo ≤ 2 ^ n → Pr l m hi → (∀ i, 0 ≤ i → i ≤ lo → ¬ Pr l m i) →
    ∃ (lo' e : Int) (s4' : Sl), whl nearT nearS (n + 1) [.va dl, .va dm, .va (.int lo), .va (.int hi), s4] b = .nx [.va dl, .va dm, .va (.int lo'), .va (.int e), s4'] b ∧ Least (Pr l m) (.int e)
  | n, lo, hi, s4, h1, h2, h3, hd, hp, hn => by
    by_cases hc : 1 < hi - lo
    · obtain ⟨n, rfl⟩ : ∃ k, n = k + 1 := by
        cases n with
        | zero => simp at hd; omega
        | succ k => exact ⟨k, rfl⟩
      have ht : nearT [.va dl, .va dm, .va (.int lo), .va (.int hi), s4] b = .ok true b := by simp [nearT, hc]
      obtain ⟨x, y, hT, he⟩ := v_pob (e := (lo + hi) / 2) hl hm zl zm b
      have hpow : (2 : Int) ^ (n + 1) = 2 * 2 ^ n := by rw [Int.pow_succ]; omega
      rw [hpow] at hd
      cases hx : isNonD x with
      | true =>
        have hs : nearS [.va dl, .va dm, .va (.int lo), .va (.int hi), s4] b = .nx [.va dl, .va dm, .va (.int ((lo + hi) / 2)), .va (.int hi), .va (.int ((lo + hi) / 2))] b := by
          simp [nearS, he, hx]
        obtain ⟨lo', e, s4', e1, e2⟩ := near_loop hl hm zl zm n ((lo + hi) / 2) hi (.va (.int ((lo + hi) / 2))) (by omega) (by omega) h3 (by omega) hp (fun i i0 i1 hpi => by
          have := (told_pr hT).mpr (hpi.mono i1)
          rw [hx] at this
          cases this)
        exact ⟨lo', e, s4', (whl_nx ht hs).trans e1, e2⟩
      | false =>
        have hs : nearS [.va dl, .va dm, .va (.int lo), .va (.int hi), s4] b = .nx [.va dl, .va dm, .va (.int lo), .va (.int ((lo + hi) / 2)), .va (.int ((lo + hi) / 2))] b := by
          simp [nearS, he, hx]
        obtain ⟨lo', e, s4', e1, e2⟩ := near_loop hl hm zl zm n lo ((lo + hi) / 2) (.va (.int ((lo + hi) / 2))) h1 (by omega) (by omega) (by omega) ((told_pr hT).mp hx) hn
        exact ⟨lo', e, s4', (whl_nx ht hs).trans e1, e2⟩
    · have ht : nearT [.va dl, .va dm, .va (.int lo), .va (.int hi), s4] b = .ok false b := by simp [nearT, hc]
      exact ⟨lo, hi, s4, whl_end ht, .some hi (by omega) h3 hp fun i i0 i1 => hn i i0 (by omega)⟩
theorem v_nearest (hl : IsBars dl l) (hm : IsBars dm m) (ol : l.all okB = true) (om : m.all okB = true) (zl : l.length ≤ 20) (zm : m.length ≤ 20) (b : Bag) : ∃ r, fm_nearest [dl, dm] b = .ok r b ∧ Least (Pr l m) r := by
  have c1 := v_check_barsA hl (b := b) ol zl
  have c2 := v_check_barsA hm (b := b) om zm
  obtain ⟨x, y, hT, he⟩ := v_pob (e := 2000) hl hm zl zm b
  cases hx : isNonD x with
  | true =>
    refine ⟨.non, ?_, .none fun h => ?_⟩
    · simp [fm_nearest, e_fnM, ms_nearest, c1, c2, he, hx]
    · have := (told_pr hT).mpr h
      rw [hx] at this
      cases this
  | false =>
    obtain ⟨lo', e, s4', e1, e2⟩ := near_loop hl hm zl zm (b := b) 19 (-1) 2000 .un (by omega) (by omega) (by omega) (by decide) ((told_pr hT).mp hx) (fun i i0 i1 => by omega)
    refine ⟨.int e, ?_, e2⟩
    unfold nearT nearS at e1
    simp [fm_nearest, e_fnM, ms_nearest, c1, c2, he, hx]
    have e1 : whl _ _ 20 _ b = _ := e1
    rw [e1]
    simp
end

section
variable {l m : List Br} {e : Int}
@[simp] theorem o_ext {ds es : List D} : extG ds [.lst es] = if ds.length + es.length ≤ 100000 then some (ds ++ es) else none := rfl
def halfI (x : Br) : Int := (x.2.getD 0 - x.1 + 1) / 2
def absdI (x : Br) (m : List Br) : List Int := m.map fun y => absI (x.1 - y.1)
def absgI (x : Br) (m : List Br) : List Int := match x.2 with
  | none => []
  | some g => (m.filter fun y => y.2.isSome).map fun y => absI (g - y.2.getD 0)
theorem isNon_enc (g : Option Int) : isNonD (encG g) = !g.isSome := by cases g <;> rfl
def stepS : MS := (sSeq (sMeth 2 (mCons (mLc (mSeq (mVar 1)) (gNm 6) mYes (mB absG (mCons (m2 subG (m2 ixG (mVar 3) (mC (.int 0))) (m2 ixG (mVar 6) (mC (.int 0)))) mNil)) [6]) mNil) extG) (sIf (mT (m2 isnG (m2 ixG (mVar 3) (mC (.int 1))) (mC .non))) (sMeth 2 (mCons (mLc (mSeq (mVar 1)) (gNm 6) (mT (m2 isnG (m2 ixG (mVar 6) (mC (.int 1))) (mC .non))) (mB absG (mCons (m2 subG (m2 ixG (mVar 3) (mC (.int 1))) (m2 ixG (mVar 6) (mC (.int 1)))) mNil)) [6]) mNil) extG) sSkip))
theorem step_one {x : Br} {x0 s4 s5 s6 : Sl} {b : Bag} (hm : m.length ≤ 1000) (R : List Int) (hR : R.length ≤ 50000) :
    stepS [x0, .va (encL m), .ol (R.map D.int), .va (encB x), s4, s5, s6] b = .nx [x0, .va (encL m), .ol ((R ++ (absdI x m ++ absgI x m)).map D.int), .va (encB x), s4, s5, s6] b := by
  obtain ⟨p, g⟩ := x
  have z1 : m.length ≤ 100000 := by omega
  have z2 : R.length + m.length ≤ 100000 := by omega
  have lc1 := lc_all (g := gNm 6) (me := mB absG (mCons (m2 subG (m2 ixG (mVar 3) (mC (.int 0))) (m2 ixG (mVar 6) (mC (.int 0)))) mNil)) (env := [x0, .va (encL m), .ol (R.map D.int), .va (encB (p, g)), s4, s5, .un]) (b := b) m encB (fun y => .int (absI (p - y.1))) fun y hy => ⟨_, rfl, by simp [encB]⟩
  cases g with
  | none =>
    simp only [encL, encB, encG] at lc1 ⊢
    simp [stepS, z1, lc1, z2, absgI, absdI, Function.comp_def]
  | some g =>
    have hf : (m.filter fun y => y.2.isSome).length ≤ m.length := List.length_filter_le _ _
    have z3 : R.length + (m.length + (m.filter fun y => y.2.isSome).length) ≤ 100000 := by omega
    have lc2 := lc_pure (g := gNm 6) (mt := mT (m2 isnG (m2 ixG (mVar 6) (mC (.int 1))) (mC .non))) (me := mB absG (mCons (m2 subG (m2 ixG (mVar 3) (mC (.int 1))) (m2 ixG (mVar 6) (mC (.int 1)))) mNil)) (env := [x0, .va (encL m), .ol ((R ++ absdI (p, some g) m).map D.int), .va (encB (p, some g)), s4, s5, .un]) (b := b) m encB (fun y => y.2.isSome) (fun y => .int (absI (g - y.2.getD 0))) fun y hy => ⟨_, rfl, by simp [encB, isNon_enc], fun h => by
      obtain ⟨q, k⟩ := y
      cases k with
      | none => cases h
      | some k => simp [encB, encG]⟩
    simp only [encL, encB, encG] at lc1 lc2 ⊢
    have ed : (R ++ absdI (p, some g) m).map D.int = R.map D.int ++ m.map fun y => D.int (absI (p - y.1)) := by
      rw [List.map_append]; unfold absdI; rw [List.map_map]; rfl
    rw [ed] at lc2
    simp [stepS, z1, lc1, z2, lc2, Nat.add_assoc, z3, absgI, absdI, Function.comp_def]
theorem step_loop {x0 s4 s5 s6 : Sl} {b : Bag} (hm : m.length ≤ 100) : ∀ (l : List Br) (R : List Int) (s3 : Sl), R.length + 200 * l.length ≤ 50000 → ∃ s3', forL (gNm 3) stepS (l.map encB) [x0, .va (encL m), .ol (R.map D.int), s3, s4, s5, s6] b = .nx [x0, .va (encL m), .ol ((R ++ l.flatMap fun x => absdI x m ++ absgI x m).map D.int), s3', s4, s5, s6] b
  | [], R, s3, _ => ⟨s3, by simp⟩
  | x :: l, R, s3, h => by
    simp only [List.length_cons] at h
    have hl : (absdI x m ++ absgI x m).length ≤ 200 := by
      unfold absdI absgI
      rw [List.length_append, List.length_map]
      split
      · simp; omega
      · have := List.length_filter_le (fun y : Br => y.2.isSome) m
        rw [List.length_map]
        omega
    obtain ⟨s3', ih⟩ := step_loop (x0 := x0) (s4 := s4) (s5 := s5) (s6 := s6) (b := b) hm l (R ++ (absdI x m ++ absgI x m)) (.va (encB x)) (by rw [List.length_append]; omega)
    refine ⟨s3', ?_⟩
    rw [List.map_cons]
    have st := forL_nx (g := gNm 3) (ds := l.map encB) (env := [x0, .va (encL m), .ol (R.map D.int), s3, s4, s5, s6]) rfl (step_one (x := x) (x0 := x0) (s4 := s4) (s5 := s5) (s6 := s6) (b := b) (by omega : m.length ≤ 1000) R (by omega))
    rw [st, ih, List.flatMap_cons, List.append_assoc]
/-! alike ones are left away -/
theorem at_last {ds : List D} {d : D} : atI (ds ++ [d]) (-1) = some d := by
  have : ixN (ds ++ [d]).length (-1) = some ds.length := by
    unfold ixN
    rw [if_neg (by omega), if_pos (by simp; omega)]
    simp
    omega
  unfold atI
  rw [this]
  simp
def fewS : MS := (sIf (mOrT (mT (m2 eqG (mB lenG (mCons (mOwn 4) mNil)) (mC (.int 0)))) (mT (m2 neG (m2 ixG (mOwn 4) (m1 negG (mC (.int 1)))) (mVar 5)))) (sMeth 4 (mCons (mVar 5) mNil) appG) sSkip)
theorem few_loop {x0 x1 x2 x3 s6 : Sl} {b : Bag} : ∀ (ns acc : List Int) (s5 : Sl), acc.length + ns.length ≤ 50000 → acc.Pairwise (· < ·) → ns.Pairwise (· ≤ ·) → (∀ a ∈ acc, ∀ n ∈ ns, a ≤ n) →
    ∃ (acc' : List Int) (s5' : Sl), forL (gNm 5) fewS (ns.map D.int) [x0, x1, x2, x3, .ol (acc.map D.int), s5, s6] b = .nx [x0, x1, x2, x3, .ol (acc'.map D.int), s5', s6] b ∧ acc'.Pairwise (· < ·) ∧ acc'.length ≤ acc.length + ns.length ∧ ∀ n, n ∈ acc' ↔ n ∈ acc ∨ n ∈ ns
  | [], acc, s5, _, h, _, _ => ⟨acc, s5, rfl, h, by simp, by simp⟩
  | n :: ns, acc, s5, hz, h, hs, hle => by
    simp only [List.length_cons] at hz
    have hs' := List.Pairwise.of_cons hs
    have hn : ∀ x ∈ ns, n ≤ x := fun x hx => List.rel_of_pairwise_cons hs hx
    have za : acc.length < 100000 := by omega
    rw [List.map_cons]
    rcases List.eq_nil_or_concat acc with rfl | ⟨as, a, rfl⟩
    · have hb : fewS [x0, x1, x2, x3, .ol (([] : List Int).map D.int), .va (.int n), s6] b = .nx [x0, x1, x2, x3, .ol (([] ++ [n] : List Int).map D.int), .va (.int n), s6] b := by simp [fewS]
      obtain ⟨acc', s5', e1, p1, z1, m1⟩ := few_loop (x0 := x0) (x1 := x1) (x2 := x2) (x3 := x3) (s6 := s6) (b := b) ns ([] ++ [n]) (.va (.int n)) (by simp; omega) (by simp) hs' (fun a ha x hx => by simp at ha; subst ha; exact hn x hx)
      refine ⟨acc', s5', (forL_nx rfl hb).trans e1, p1, by simp at z1 ⊢; omega, fun x => ?_⟩
      rw [m1]; simp
    · rw [List.concat_eq_append] at h hle hz za ⊢
      have hlast : atI ((as ++ [a]).map D.int) (-1) = some (.int a) := by rw [List.map_append]; exact at_last
      have hne : ¬ ((as ++ [a]).length : Int) = 0 := by simp; omega
      by_cases han : a = n
      · subst han
        have hb : fewS [x0, x1, x2, x3, .ol ((as ++ [a]).map D.int), .va (.int a), s6] b = .nx [x0, x1, x2, x3, .ol ((as ++ [a]).map D.int), .va (.int a), s6] b := by
          simp only [List.map_append, List.map_cons, List.map_nil] at hlast
          simp [fewS, hlast]
          intro z
          omega
        obtain ⟨acc', s5', e1, p1, z1, m1⟩ := few_loop (x0 := x0) (x1 := x1) (x2 := x2) (x3 := x3) (s6 := s6) (b := b) ns (as ++ [a]) (.va (.int a)) (by omega) h hs' (fun y hy x hx => hle y hy x (List.mem_cons_of_mem _ hx))
        refine ⟨acc', s5', (forL_nx rfl hb).trans e1, p1, by simp at z1 ⊢; omega, fun x => ?_⟩
        rw [m1]
        simp
        constructor
        · rintro ((h | h) | h)
          · exact .inl (.inl h)
          · exact .inl (.inr h)
          · exact .inr (.inr h)
        · rintro ((h | h) | h | h)
          · exact .inl (.inl h)
          · exact .inl (.inr h)
          · exact .inl (.inr h)
          · exact .inr h
      · have hb : fewS [x0, x1, x2, x3, .ol ((as ++ [a]).map D.int), .va (.int n), s6] b = .nx [x0, x1, x2, x3, .ol ((as ++ [a] ++ [n]).map D.int), .va (.int n), s6] b := by
          simp only [List.map_append, List.map_cons, List.map_nil] at hlast
          have zz : as.length + 1 < 100000 := by simp at za; omega
          simp [fewS, hlast, han, zz]
        have hall : ∀ y ∈ as ++ [a], y < n := fun y hy => by
          have h1 := hle a (by simp) n List.mem_cons_self
          have h2 : y ≤ a := by
            rcases List.mem_append.mp hy with hy | hy
            · have := (List.pairwise_append.mp h).2.2 y hy a (by simp)
              omega
            · rw [List.mem_singleton.mp hy]; omega
          omega
        obtain ⟨acc', s5', e1, p1, z1, m1⟩ := few_loop (x0 := x0) (x1 := x1) (x2 := x2) (x3 := x3) (s6 := s6) (b := b) ns (as ++ [a] ++ [n]) (.va (.int n)) (by simp at hz ⊢; omega) (List.pairwise_append.mpr ⟨h, by simp, fun y hy x hx => by rw [List.mem_singleton.mp hx]; exact hall y hy⟩) hs' (fun y hy x hx => by
          rcases List.mem_append.mp hy with hy | hy
          · exact hle y hy x (List.mem_cons_of_mem _ hx)
          · rw [List.mem_singleton.mp hy]; exact hn x hx)
        refine ⟨acc', s5', (forL_nx rfl hb).trans e1, p1, by simp at z1 ⊢; omega, fun x => ?_⟩
        rw [m1]
        simp
        constructor
        · rintro ((h | h | h) | h)
          · exact .inl (.inl h)
          · exact .inl (.inr h)
          · exact .inr (.inl h)
          · exact .inr (.inr h)
        · rintro ((h | h) | h | h)
          · exact .inl (.inl h)
          · exact .inl (.inr (.inl h))
          · exact .inl (.inr (.inr h))
          · exact .inr h
end

section
variable {l m : List Br} {e : Int}
/-- all numbers at which something changes -/
def rawI (l m : List Br) : List Int := (0 :: ((l ++ m).filter fun x => x.2.isSome).map halfI) ++ l.flatMap fun x => absdI x m ++ absgI x m
structure Steps (l m : List Br) (ns : List Int) : Prop where
  asc : ns.Pairwise (· < ·)
  mem : ∀ n, n ∈ ns ↔ n ∈ rawI l m
  len : ns.length ≤ 50000
theorem raw_len (hl : l.length ≤ 20) (hm : m.length ≤ 20) : (rawI l m).length ≤ 4000 := by
  unfold rawI
  rw [List.length_append, List.length_cons, List.length_map, List.length_flatMap]
  have h1 := List.length_filter_le (fun x : Br => x.2.isSome) (l ++ m)
  rw [List.length_append] at h1
  have h2 : ∀ l : List Br, (l.map fun x => (absdI x m ++ absgI x m).length).sum ≤ 40 * l.length := by
    intro l
    induction l with
    | nil => simp
    | cons x l ih =>
      have : (absdI x m ++ absgI x m).length ≤ 40 := by
        unfold absdI absgI
        rw [List.length_append, List.length_map]
        split
        · simp; omega
        · have := List.length_filter_le (fun y : Br => y.2.isSome) m
          rw [List.length_map]
          omega
      rw [List.map_cons, List.sum_cons, List.length_cons]
      omega
  have := h2 l
  omega
set_option maxHeartbeats 1000000 in
theorem v_steps (hl : l.length ≤ 20) (hm : m.length ≤ 20) (b : Bag) : ∃ ns, fm__law_steps [encL l, encL m] b = .ok (.lst (ns.map D.int)) b ∧ Steps l m ns := by
  have h1 := List.length_filter_le (fun x : Br => x.2.isSome) (l ++ m)
  rw [List.length_append] at h1
  have z1 : l.length + m.length ≤ 100000 := by omega
  have z2 : (((l ++ m).filter fun x => x.2.isSome).map halfI).length ≤ 40 := by rw [List.length_map]; omega
  have lc := lc_pure (g := gNm 3) (mt := (mT (m2 isnG (m2 ixG (mVar 3) (mC (.int 1))) (mC .non)))) (me := (m2 divG (m2 addG (m2 subG (m2 ixG (mVar 3) (mC (.int 1))) (m2 ixG (mVar 3) (mC (.int 0)))) (mC (.int 1))) (mC (.int 2)))) (env := [.va (encL l), .va (encL m), .un, .un, .un, .un, .un]) (b := b) (l ++ m) encB (fun x => x.2.isSome) (fun x => .int (halfI x)) fun x hx => ⟨_, rfl, by simp [encB, isNon_enc], fun h => by
    obtain ⟨p, g⟩ := x
    cases g with
    | none => cases h
    | some g => simp [encB, encG, halfI]⟩
  have hr := raw_len hl hm
  obtain ⟨s3, e1⟩ := step_loop (x0 := .va (encL l)) (s4 := .un) (s5 := .un) (s6 := .un) (b := b) (by omega : m.length ≤ 100) l (0 :: ((l ++ m).filter fun x => x.2.isSome).map halfI) .un (by simp at z2 ⊢; omega)
  have hsl : (sortI (rawI l m)).length = (rawI l m).length := (sortI_perm _).length_eq
  obtain ⟨acc, s5, e2, p2, zz, m2⟩ := few_loop (x0 := .va (encL l)) (x1 := .va (encL m)) (x2 := .ol ((rawI l m).map D.int)) (x3 := s3) (s6 := .un) (b := b) (sortI (rawI l m)) [] .un (by simp; omega) List.Pairwise.nil (sortI_sorted _) (fun a ha => by simp at ha)
  refine ⟨acc, ?_, p2, fun n => ?_, by simp at zz; omega⟩
  · have hs : sortedIG [.lst ((rawI l m).map D.int)] = some (.lst ((sortI (rawI l m)).map D.int)) := by
      show (intsD _).map _ = _
      rw [ints_map]; rfl
    unfold stepS at e1
    unfold fewS at e2
    change forL _ _ _ _ _ = SO.nx [_, _, .ol ((rawI l m).map D.int), _, _, _, _] _ at e1
    simp only [encL, List.map_append, List.filter_append] at lc
    simp only [encL, List.map_cons, List.filter_append, List.map_append, List.map_map] at e1 e2 ⊢
    have z3 : (l.filter fun x => x.2.isSome).length + (m.filter fun x => x.2.isSome).length + 1 ≤ 100000 := by
      rw [List.filter_append, List.map_append, List.length_append, List.length_map, List.length_map] at z2
      omega
    have z4 : 1 + ((l.filter fun x => x.2.isSome).length + (m.filter fun x => x.2.isSome).length) ≤ 100000 := by omega
    simp [fm__law_steps, e_fnM, ms__law_steps, z1, lc, z4]
    simp only [Function.comp_def] at e1 ⊢
    rw [e1]
    simp only [List.map_nil] at e2
    simp [hs, e2]
  · rw [m2]
    simp
    exact (sortI_perm _).mem_iff
/-- the greatest step up to a number -/
theorem floor_step {ns : List Int} (h0 : (0 : Int) ∈ ns) (he : 0 ≤ e) : ∃ s ∈ ns, s ≤ e ∧ 0 ≤ s ∧ ∀ t ∈ ns, t ≤ e → t ≤ s := by
  have : ∀ (ns : List Int) (s0 : Int), 0 ≤ s0 → s0 ≤ e → ∃ s, (s = s0 ∨ s ∈ ns) ∧ s ≤ e ∧ 0 ≤ s ∧ s0 ≤ s ∧ ∀ t ∈ ns, t ≤ e → t ≤ s := by
    intro ns
    induction ns with
    | nil => exact fun s0 h1 h2 => ⟨s0, .inl rfl, h2, h1, by omega, by simp⟩
    | cons n ns ih =>
      intro s0 h1 h2
      by_cases hn : n ≤ e ∧ s0 ≤ n
      · obtain ⟨s, a, b, c, d, f⟩ := ih n (by omega) hn.1
        refine ⟨s, ?_, b, c, by omega, fun t ht hte => ?_⟩
        · rcases a with rfl | a
          · exact .inr List.mem_cons_self
          · exact .inr (List.mem_cons_of_mem _ a)
        · rcases List.mem_cons.mp ht with rfl | ht
          · exact d
          · exact f t ht hte
      · obtain ⟨s, a, b, c, d, f⟩ := ih s0 h1 h2
        refine ⟨s, ?_, b, c, d, fun t ht hte => ?_⟩
        · rcases a with rfl | a
          · exact .inl rfl
          · exact .inr (List.mem_cons_of_mem _ a)
        · rcases List.mem_cons.mp ht with rfl | ht
          · omega
          · exact f t ht hte
  obtain ⟨s, a, b, c, d, f⟩ := this ns 0 (by omega) he
  refine ⟨s, ?_, b, c, f⟩
  rcases a with rfl | a
  · exact h0
  · exact a
theorem mem_atB {l : List Br} {i : Nat} (h : i < l.length) : atB l i ∈ l := by
  unfold atB
  rw [List.getD_eq_getElem?_getD, List.getElem?_eq_getElem h]
  exact List.getElem_mem h
/-- nothing changes between two steps -/
theorem pr_floor {ns : List Int} (hs : Steps l m ns) {s : Int} (h : ∀ t ∈ ns, t ≤ e → t ≤ s) (hp : Pr l m e) : Pr l m s := by
  obtain ⟨ps, hp⟩ := hp
  have hraw : ∀ t ∈ rawI l m, t ≤ e → t ≤ s := fun t ht => h t ((hs.mem t).mpr ht)
  have habs : ∀ x ∈ l, ∀ y ∈ m, absI (x.1 - y.1) ∈ rawI l m := fun x hx y hy => by
    unfold rawI
    refine List.mem_append.mpr (.inr (List.mem_flatMap.mpr ⟨x, hx, List.mem_append.mpr (.inl ?_)⟩))
    exact List.mem_map.mpr ⟨y, hy, rfl⟩
  have habg : ∀ x ∈ l, ∀ y ∈ m, ∀ g k, x.2 = some g → y.2 = some k → absI (g - k) ∈ rawI l m := fun x hx y hy g k e1 e2 => by
    unfold rawI
    refine List.mem_append.mpr (.inr (List.mem_flatMap.mpr ⟨x, hx, List.mem_append.mpr (.inr ?_)⟩))
    unfold absgI
    rw [e1]
    exact List.mem_map.mpr ⟨y, List.mem_filter.mpr ⟨hy, by rw [e2]; rfl⟩, by rw [e2]; rfl⟩
  have hhalf : ∀ x, x ∈ l ++ m → ∀ g, x.2 = some g → (g - x.1 + 1) / 2 ∈ rawI l m := fun x hx g e1 => by
    unfold rawI
    refine List.mem_append.mpr (.inl (List.mem_cons_of_mem _ (List.mem_map.mpr ⟨x, List.mem_filter.mpr ⟨hx, by rw [e1]; rfl⟩, ?_⟩)))
    unfold halfI
    rw [e1]
    rfl
  have hlong : ∀ x, x ∈ l ++ m → longB s x = true → longB e x = true := fun x hx hlo => by
    obtain ⟨p, g⟩ := x
    cases g with
    | none => rfl
    | some g =>
      have h1 := hraw _ (hhalf _ hx g rfl)
      simp only at h1
      unfold longB at hlo ⊢
      simp at hlo ⊢
      omega
  refine ⟨ps, hp.n1, hp.n2, fun p hps => ?_, hp.lt, fun i hi hlo => hp.l1 i hi (hlong _ (List.mem_append.mpr (.inl (mem_atB hi))) hlo), fun i hi hlo => hp.l2 i hi (hlong _ (List.mem_append.mpr (.inr (mem_atB hi))) hlo)⟩
  have hf := hp.fit p hps
  have hx := mem_atB (hp.lt p hps).1
  have hy := mem_atB (hp.lt p hps).2
  revert hf hx hy
  generalize atB l p.1 = x
  generalize atB m p.2 = y
  intro hf hx hy
  have a1 := hraw _ (habs x hx y hy)
  have a2 := habg x hx y hy
  obtain ⟨x1, x2⟩ := x
  obtain ⟨y1, y2⟩ := y
  unfold fitB at hf ⊢
  cases x2 <;> cases y2 <;> simp at hf ⊢
  · exact a1 hf
  · rename_i g k
    exact ⟨a1 hf.1, hraw _ (a2 g k rfl rfl) hf.2⟩
theorem raw_bound (ol : l.all okB = true) (om : m.all okB = true) : ∀ n ∈ rawI l m, 0 ≤ n ∧ n ≤ 2000 := by
  have hok : ∀ x, x ∈ l ++ m → okB x = true := fun x hx => by
    rcases List.mem_append.mp hx with h | h
    · exact List.all_eq_true.mp ol x h
    · exact List.all_eq_true.mp om x h
  have hb : ∀ x, okB x = true → -1000 ≤ x.1 ∧ x.1 ≤ 1000 ∧ ∀ g, x.2 = some g → x.1 + 1 ≤ g ∧ g ≤ 1000 := fun x h => by
    obtain ⟨p, g⟩ := x
    cases g with
    | none => simp [okB] at h; exact ⟨h.1, h.2, fun g h => by cases h⟩
    | some g => simp [okB] at h; exact ⟨h.1.1, h.1.2, fun g h => by cases h; omega⟩
  intro n hn
  unfold rawI at hn
  rcases List.mem_append.mp hn with hn | hn
  · rcases List.mem_cons.mp hn with rfl | hn
    · omega
    · obtain ⟨x, hx, rfl⟩ := List.mem_map.mp hn
      have hx := List.mem_filter.mp hx
      have := hb x (hok x hx.1)
      unfold halfI
      cases hg : x.2 with
      | none => rw [hg] at hx; exact absurd hx.2 (by decide)
      | some g =>
        have h3 := this.2.2 g hg
        simp only [Option.getD_some]
        omega
  · obtain ⟨x, hx, hn⟩ := List.mem_flatMap.mp hn
    have bx := hb x (List.all_eq_true.mp ol x hx)
    rcases List.mem_append.mp hn with hn | hn
    · obtain ⟨y, hy, rfl⟩ := List.mem_map.mp hn
      have := hb y (List.all_eq_true.mp om y hy)
      unfold absI
      split <;> omega
    · unfold absgI at hn
      split at hn
      · simp at hn
      · rename_i g hg
        obtain ⟨y, hy, rfl⟩ := List.mem_map.mp hn
        have hy := List.mem_filter.mp hy
        have by' := hb y (List.all_eq_true.mp om y hy.1)
        have h3 := bx.2.2 g hg
        cases hk : y.2 with
        | none => rw [hk] at hy; exact absurd hy.2 (by decide)
        | some k =>
          have h4 := by'.2.2 k hk
          simp only [Option.getD_some]
          unfold absI
          split <;> omega
end

section
variable {l m : List Br} {e : Int}
theorem there_pr (hl : l.length ≤ 20) (hm : m.length ≤ 20) (b : Bag) : ∃ k : Bool, fm__law_is_there [encL l, encL m, .int e] b = .ok (.bl k) b ∧ (k = true ↔ Pr l m e) := by
  obtain ⟨x, y, hT, _⟩ := v_pob (e := e) (dl := encL l) (dm := encL m) (.inl rfl) (.inl rfl) hl hm b
  refine ⟨!isNonD x, v_is_there hl hm b hT, ?_⟩
  rw [← told_pr hT]
  cases isNonD x <;> simp
def dueT : MT := (mT (m2 ltG (mVar 3) (mVar 4)))
def dueS : MS := (sSeq (sAsg (gNm 5) (m2 divG (m2 addG (mVar 3) (mVar 4)) (mC (.int 2)))) (sIf (mT (mCall0 fm__law_is_there (mCons (mVar 0) (mCons (mVar 1) (mCons (m2 ixG (mVar 2) (mVar 5)) mNil))))) (sAsg (gNm 4) (mVar 5)) (sAsg (gNm 3) (m2 addG (mVar 5) (mC (.int 1))))))
def atN (ns : List Int) (i : Nat) : Int := ns.getD i 0
theorem atN_get {ns : List Int} {i : Nat} (h : i < ns.length) : ixG (.lst (ns.map D.int)) (.int (i : Nat)) = some (.int (atN ns i)) := by
  show atI _ _ = _
  rw [at_map h]
  unfold atN
  rw [List.getD_eq_getElem?_getD, List.getElem?_eq_getElem h]
  rfl
theorem due_loop (hl : l.length ≤ 20) (hm : m.length ≤ 20) {ns : List Int} (ha : ns.Pairwise (· < ·)) {b : Bag} : ∀ (n lo hi : Nat) (s5 : Sl), lo ≤ hi → hi < ns.length → hi - lo < 2 ^ n → Pr l m (atN ns hi) → (∀ i, i < lo → ¬ Pr l m (atN ns i)) →
    ∃ (k : Nat) (s5' : Sl), whl dueT dueS (n + 1) [.va (encL l), .va (encL m), .va (.lst (ns.map D.int)), .va (encI lo), .va (encI hi), s5] b = .nx [.va (encL l), .va (encL m), .va (.lst (ns.map D.int)), .va (encI k), .va (encI k), s5'] b ∧ k < ns.length ∧ Pr l m (atN ns k) ∧ ∀ i, i < k → ¬ Pr l m (atN ns i)
  | n, lo, hi, s5, h1, h2, hd, hp, hn => by
    by_cases hc : lo < hi
    · obtain ⟨n, rfl⟩ : ∃ k, n = k + 1 := by
        cases n with
        | zero => simp at hd; omega
        | succ k => exact ⟨k, rfl⟩
      have hpow : (2 : Nat) ^ (n + 1) = 2 * 2 ^ n := by rw [Nat.pow_succ]; omega
      rw [hpow] at hd
      have ht : dueT [.va (encL l), .va (encL m), .va (.lst (ns.map D.int)), .va (encI lo), .va (encI hi), s5] b = .ok true b := by simp [dueT, hc]
      obtain ⟨mid, hmid, hdiv⟩ : ∃ mid : Nat, mid = (lo + hi) / 2 ∧ ((lo : Int) + (hi : Int)) / 2 = (mid : Int) := ⟨_, rfl, by omega⟩
      obtain ⟨k, ek, hk⟩ := there_pr (e := atN ns mid) hl hm b
      have hat := atN_get (ns := ns) (i := mid) (by omega)
      cases k with
      | true =>
        have hs : dueS [.va (encL l), .va (encL m), .va (.lst (ns.map D.int)), .va (encI lo), .va (encI hi), s5] b = .nx [.va (encL l), .va (encL m), .va (.lst (ns.map D.int)), .va (encI lo), .va (encI mid), .va (encI mid)] b := by
          simp only [encI] at hat ⊢
          simp [dueS, hdiv, -o_ixL, hat, ek]
        obtain ⟨k, s5', e1, e2⟩ := due_loop hl hm ha n lo mid (.va (encI mid)) (by omega) (by omega) (by omega) (hk.mp rfl) hn
        exact ⟨k, s5', (whl_nx ht hs).trans e1, e2⟩
      | false =>
        have hs : dueS [.va (encL l), .va (encL m), .va (.lst (ns.map D.int)), .va (encI lo), .va (encI hi), s5] b = .nx [.va (encL l), .va (encL m), .va (.lst (ns.map D.int)), .va (encI (mid + 1)), .va (encI hi), .va (encI mid)] b := by
          have e1 : (encI (mid + 1)) = .int ((mid : Int) + 1) := by show D.int ((mid + 1 : Nat) : Int) = _; congr 1
          rw [e1]
          simp only [encI] at hat ⊢
          simp [dueS, hdiv, -o_ixL, hat, ek]
        have hno : ¬ Pr l m (atN ns mid) := fun h => by have := hk.mpr h; cases this
        obtain ⟨k, s5', e1, e2⟩ := due_loop hl hm ha n (mid + 1) hi (.va (encI mid)) (by omega) h2 (by omega) hp (fun i hi' hpi => by
          refine hno (hpi.mono ?_)
          by_cases z : i = mid
          · rw [z]; exact Int.le_refl _
          · have hlt : i < mid := by omega
            have := List.pairwise_iff_getElem.mp ha i mid (by omega) (by omega) hlt
            unfold atN
            rw [List.getD_eq_getElem?_getD, List.getElem?_eq_getElem (by omega), List.getD_eq_getElem?_getD, List.getElem?_eq_getElem (by omega)]
            simp only [Option.getD_some]
            omega)
        exact ⟨k, s5', (whl_nx ht hs).trans e1, e2⟩
    · have hlo : lo = hi := by omega
      subst hlo
      have ht : dueT [.va (encL l), .va (encL m), .va (.lst (ns.map D.int)), .va (encI lo), .va (encI lo), s5] b = .ok false b := by simp [dueT]
      exact ⟨lo, s5, whl_end ht, h2, hp, hn⟩
set_option maxHeartbeats 1000000 in
theorem v_due (ol : l.all okB = true) (om : m.all okB = true) (hl : l.length ≤ 20) (hm : m.length ≤ 20) (b : Bag) : ∃ r, fm__law_due [encL l, encL m] b = .ok r b ∧ Least (Pr l m) r := by
  obtain ⟨ns, es, hs⟩ := v_steps hl hm b
  have h0 : (0 : Int) ∈ ns := (hs.mem 0).mpr (by unfold rawI; simp)
  have hbd : ∀ n ∈ ns, 0 ≤ n ∧ n ≤ 2000 := fun n hn => raw_bound ol om n ((hs.mem n).mp hn)
  obtain ⟨ini, z, rfl⟩ : ∃ ini z, ns = ini ++ [z] := by
    rcases List.eq_nil_or_concat ns with rfl | ⟨as, a, rfl⟩
    · simp at h0
    · exact ⟨as, a, List.concat_eq_append⟩
  have hz : ∀ t ∈ ini ++ [z], t ≤ z := fun t ht => by
    rcases List.mem_append.mp ht with h | h
    · have := (List.pairwise_append.mp hs.asc).2.2 t h z (by simp)
      omega
    · rw [List.mem_singleton.mp h]; omega
  have hlast : atI ((ini ++ [z]).map D.int) (-1) = some (.int z) := by rw [List.map_append]; exact at_last
  obtain ⟨k, ek, hk⟩ := there_pr (e := z) hl hm b
  have hlen := hs.len
  have h2000 : Pr l m 2000 ↔ Pr l m z := ⟨fun h => pr_floor hs (fun t ht _ => hz t ht) h, fun h => h.mono (hbd z (by simp)).2⟩
  cases k with
  | false =>
    refine ⟨.non, ?_, .none fun h => ?_⟩
    · simp only [encL] at es ek ⊢
      simp only [List.map_append, List.map_cons, List.map_nil] at hlast es
      simp [fm__law_due, e_fnM, ms__law_due, es, hlast, ek]
    · have := hk.mpr (h2000.mp h)
      cases this
  | true =>
    have hpz : Pr l m (atN (ini ++ [z]) ini.length) := by
      unfold atN
      rw [List.getD_eq_getElem?_getD, List.getElem?_append_right (Nat.le_refl _)]
      simpa using hk.mp rfl
    obtain ⟨k, s5, e1, hkl, hpk, hmin⟩ := due_loop hl hm hs.asc (b := b) 29 0 ini.length .un (by omega) (by simp) (by simp at hlen ⊢; omega) hpz (fun i hi => by omega)
    have hkm : atN (ini ++ [z]) k ∈ ini ++ [z] := by
      unfold atN
      rw [List.getD_eq_getElem?_getD, List.getElem?_eq_getElem hkl]
      exact List.getElem_mem hkl
    refine ⟨.int (atN (ini ++ [z]) k), ?_, .some _ (hbd _ hkm).1 (hbd _ hkm).2 hpk fun i i0 i1 hpi => ?_⟩
    · have hat := atN_get hkl
      unfold dueT dueS at e1
      have hlen2 : ((ini.length : Int) + 1 - 1) = (ini.length : Int) := by omega
      simp only [encL, encI] at es ek e1 hat ⊢
      simp only [List.map_append, List.map_cons, List.map_nil] at hlast es e1 hat
      have e1 : whl _ _ 30 [.va (.lst (l.map encB)), .va (.lst (m.map encB)), .va (.lst (ini.map D.int ++ [D.int z])), .va (.int 0), .va (.int ini.length), .un] b = _ := e1
      simp [fm__law_due, e_fnM, ms__law_due, es, hlast, ek, e1]
      simp at hat
      rw [hat]
      simp
    · obtain ⟨s, hsm, h1, h2, h3⟩ := floor_step h0 i0
      have hps := pr_floor hs h3 hpi
      obtain ⟨j, hj, rfl⟩ := List.getElem_of_mem hsm
      have hjk : j < k := by
        rcases Nat.lt_or_ge j k with h | h
        · exact h
        · exfalso
          have : atN (ini ++ [z]) k ≤ (ini ++ [z])[j] := by
            unfold atN
            rw [List.getD_eq_getElem?_getD, List.getElem?_eq_getElem hkl]
            simp only [Option.getD_some]
            rcases Nat.lt_or_ge k j with h' | h'
            · have := List.pairwise_iff_getElem.mp hs.asc k j hkl hj h'
              omega
            · have : j = k := by omega
              subst this
              exact Int.le_refl _
          omega
      refine hmin j hjk ?_
      unfold atN
      rw [List.getD_eq_getElem?_getD, List.getElem?_eq_getElem hj]
      exact hps
/-! ### put in another order -/
theorem perm_erase {α : Type} : ∀ {ds : List α} {k : Nat} {d : α}, ds[k]? = some d → (d :: ds.eraseIdx k).Perm ds
  | [], k, d, h => by simp at h
  | x :: ds, 0, d, h => by
    have : x = d := by simpa using h
    subst this
    exact .refl _
  | x :: ds, k + 1, d, h => by
    have ih := perm_erase (ds := ds) (k := k) (d := d) (by simpa using h)
    exact (List.Perm.swap x d (ds.eraseIdx k)).trans (ih.cons x)
@[simp] theorem e_appPop {i j : Nat} {mk : ME} {env : Ev} {b : Bag} : sAppPop i j mk env b = if i = j then .stuck else apJ mk env i j b env[i]? env[j]? := rfl
@[simp] theorem e_apJ {i j : Nat} {mk : ME} {env : Ev} {b : Bag} {es ds : List D} : apJ mk env i j b (some (.ol es)) (some (.ol ds)) = (mk env b).so fun k b => apK env i j b es (popO ds k) := rfl
@[simp] theorem o_pop {ds : List D} {i : Int} : popO ds (.int i) = if 0 ≤ i ∧ i < 1000000 then (ds[i.toNat]?).map fun d => (d, ds.eraseIdx i.toNat) else none := rfl
@[simp] theorem e_apK {i j : Nat} {env : Ev} {b : Bag} {es ds : List D} {d : D} : apK env i j b es (some (d, ds)) = if es.length < 100000 then .nx ((env.set j (.ol ds)).set i (.ol (es ++ [d]))) b else .stuck := rfl
theorem map_erase {α β : Type} (f : α → β) : ∀ (l : List α) (k : Nat), (l.map f).eraseIdx k = (l.eraseIdx k).map f
  | [], _ => rfl
  | x :: l, 0 => rfl
  | x :: l, k + 1 => by
    rw [List.map_cons, List.eraseIdx_cons_succ, List.eraseIdx_cons_succ, List.map_cons, map_erase f l k]
def shufT : MT := (mT (m2 gtG (mB lenG (mCons (mOwn 2) mNil)) (mC (.int 0))))
def shufS : MS := (sAppPop 3 2 (mCall0 fm__law_pick (mCons (mVar 0) (mCons (mB lenG (mCons (mOwn 2) mNil)) mNil))))
theorem shuf_step {x1 : Sl} {q f : List Br} {k : Nat} {b b1 : Bag} (e1 : fm__law_pick [.bag, .int (q.length : Nat)] b = .ok (.int (k : Nat)) b1) (hk : k < q.length) (hz : f.length + q.length ≤ 1000) :
    shufS [.va .bag, x1, .ol (q.map encB), .ol (f.map encB)] b = .nx [.va .bag, x1, .ol ((q.eraseIdx k).map encB), .ol ((f ++ [q[k]]).map encB)] b1 := by
  have hm1 : (q.map encB)[k]? = some (encB q[k]) := by rw [List.getElem?_map, List.getElem?_eq_getElem hk]; rfl
  have hm2 : (q.map encB).eraseIdx k = (q.eraseIdx k).map encB := map_erase _ _ _
  have hz1 : f.length < 100000 := by omega
  have hz2 : (k : Int) < 1000000 := by omega
  have hp : popO (q.map encB) (.int (k : Nat)) = some (encB q[k], (q.eraseIdx k).map encB) := by
    rw [o_pop, if_pos ⟨Int.natCast_nonneg _, hz2⟩, Int.toNat_natCast, hm1, hm2]
    rfl
  have hc : (mCall0 fm__law_pick (mCons (mVar 0) (mCons (mB lenG (mCons (mOwn 2) mNil)) mNil))) [.va .bag, x1, .ol (q.map encB), .ol (f.map encB)] b = .ok (.int (k : Nat)) b1 := by
    simp [e1]
  show (if 3 = 2 then SO.stuck else apJ _ [.va .bag, x1, .ol (q.map encB), .ol (f.map encB)] 3 2 b (some (.ol (f.map encB))) (some (.ol (q.map encB)))) = _
  rw [if_neg (by decide), e_apJ, hc, R.so_ok, hp, e_apK, if_pos (by rw [List.length_map]; exact hz1)]
  rw [List.map_append]
  rfl
theorem shuf_test {x0 x1 x3 : Sl} {q : List Br} {b : Bag} (h : 0 < q.length) : shufT [x0, x1, .ol (q.map encB), x3] b = .ok true b := by
  have : (0 : Int) < (q.length : Int) := by omega
  simp [shufT, this]
  omega
theorem shuf_loop {x1 : Sl} : ∀ (n : Nat) (l f : List Br) (b : Bag), l.length ≤ n → f.length + l.length ≤ 1000 → ∃ (r : List Br) (b' : Bag), whl shufT shufS (n + 1) [.va .bag, x1, .ol (l.map encB), .ol (f.map encB)] b = .nx [.va .bag, x1, .ol [], .ol (r.map encB)] b' ∧ r.Perm (f ++ l) := by
  intro n
  induction n with
  | zero =>
    intro l f b hn hz
    have : l = [] := List.length_eq_zero_iff.mp (by omega)
    subst this
    exact ⟨f, b, whl_end (by simp [shufT]), by rw [List.append_nil]⟩
  | succ n ih =>
    intro l f b hn hz
    by_cases h0 : l.length = 0
    · have : l = [] := List.length_eq_zero_iff.mp h0
      subst this
      exact ⟨f, b, whl_end (by simp [shufT]), by rw [List.append_nil]⟩
    · obtain ⟨k, b1, e1, hk⟩ := pickN b (l.length : Int) (by omega)
      have hk2 : k < l.length := by omega
      have hlen : (l.eraseIdx k).length = l.length - 1 := by rw [List.length_eraseIdx, if_pos hk2]
      obtain ⟨r, b', e2, hp⟩ := ih (l.eraseIdx k) (f ++ [l[k]]) b1 (by omega) (by rw [hlen]; simp; omega)
      refine ⟨r, b', (whl_nx (shuf_test (by omega)) (shuf_step e1 hk2 hz)).trans e2, hp.trans ?_⟩
      rw [List.append_assoc]
      exact List.Perm.append_left f (perm_erase (List.getElem?_eq_getElem hk2))
theorem v_shuffled (hl : l.length ≤ 20) (b : Bag) : ∃ (r : List Br) (b' : Bag), fm__law_shuffled [.bag, encL l] b = .ok (encL r) b' ∧ r.Perm l := by
  obtain ⟨r, b', e1, hp⟩ := shuf_loop (x1 := .va (encL l)) 29 l [] b (by omega) (by simp; omega)
  refine ⟨r, b', ?_, hp⟩
  unfold shufT shufS at e1
  have e1 : whl _ _ 30 _ b = _ := e1
  simp only [encL] at e1 ⊢
  simp only [List.map_nil] at e1
  simp [fm__law_shuffled, e_fnM, ms__law_shuffled, e1]
theorem fit_self (x : Br) : fitB 0 x x = true := by
  obtain ⟨p, g⟩ := x
  unfold fitB absI
  cases g <;> simp
theorem no_ban {L : List Nat} (hp : l.Perm m) (h : GoodB l m 0 L) : False := by
  have hg := h.g
  unfold goodB at hg
  rw [Bool.and_eq_true, Bool.and_eq_true, List.all_eq_true, decide_eq_true_iff] at hg
  obtain ⟨⟨ha, hlo⟩, hlt⟩ := hg
  have e0 := (hp.filter fun y => L.any fun i => fitB 0 (atB l i) y).length_eq
  rw [← e0] at hlt
  have e1 : (l.filter fun y => L.any fun i => fitB 0 (atB l i) y).length = ((List.range l.length).filter fun j => L.any fun i => fitB 0 (atB l i) (atB l j)).length := by
    conv => lhs; arg 1; arg 2; rw [← atB_map l]
    rw [List.filter_map, List.length_map]
    rfl
  rw [e1] at hlt
  have e2 := List.Nodup.length_le_of_subset (l₂ := (List.range l.length).filter fun j => L.any fun i => fitB 0 (atB l i) (atB l j)) (asc_nd ha) fun i hi => by
    rw [List.mem_filter, List.any_eq_true]
    exact ⟨List.mem_range.mpr (h.lt i hi), i, hi, fit_self _⟩
  omega
theorem pr_perm (hl : l.length ≤ 20) (hp : m.Perm l) : Pr l m 0 := by
  have hm : m.length ≤ 20 := by rw [hp.length_eq]; exact hl
  obtain ⟨x, y, hT, _⟩ := v_pob (e := 0) (dl := encL l) (dm := encL m) (.inl rfl) (.inl rfl) hl hm ⟨[], 0, 0, 0⟩
  cases hT with
  | pair ps hg hp hz => exact ⟨ps, .of hg hp⟩
  | ban i L hi hg =>
    rcases hi with rfl | rfl
    · exact (no_ban (l := l) (m := m) hp.symm hg).elim
    · exact (no_ban (l := m) (m := l) hp hg).elim
end

section
variable {l m : List Br}
def toldS : MS := (sIf (mOrT (mT (m2 neG (m2 isG (mVar 6) (mC .non)) (m2 isG (mVar 5) (mC .non)))) (mOrT (mT (m1 (isiG "bool") (mVar 6))) (mT (m2 neG (mVar 6) (mVar 5))))) (sRet (mC (.bl false))) sSkip)
theorem told_ok {p : Int → Prop} {r : D} (h : Least p r) {x0 x1 x2 x3 x4 : Sl} {b : Bag} : toldS [x0, x1, x2, x3, x4, .va r, .va r] b = .nx [x0, x1, x2, x3, x4, .va r, .va r] b := by
  cases h with
  | none h => 
    have : neG .non .non = some (.bl false) := (Bd.non 0).ne_self
    have h2 : isiG "bool" .non = some (.bl false) := rfl
    simp [toldS, this, h2]
  | some e h0 h1 h2 h3 => simp [toldS]
set_option maxHeartbeats 2000000 in
theorem says_law : Says 5 ms_law := by
  intro b _
  obtain ⟨k, b1, e1, l1, u1⟩ := pick b 5 (by omega)
  obtain ⟨x, hx, b2, e2⟩ := sp_some b1 [.int 15, .int 6, .int 1000] (by simp) (by simp)
  obtain ⟨w, rfl, hw⟩ : ∃ w, x = .int w ∧ (1 ≤ w ∧ w ≤ 1000) := by
    simp at hx
    rcases hx with rfl | rfl | rfl
    · exact ⟨15, rfl, by omega⟩
    · exact ⟨6, rfl, by omega⟩
    · exact ⟨1000, rfl, by omega⟩
  obtain ⟨l, m, b3, e3, hl, hm, zl, zm⟩ := sp_lists b2 w (if k = 3 then 20 else 5) hw (by split <;> omega)
  have zl : l.length ≤ 20 := Nat.le_trans zl (by split <;> omega)
  have zm : m.length ≤ 20 := Nat.le_trans zm (by split <;> omega)
  obtain ⟨r, ed, hd⟩ := v_due hl hm zl zm b3
  obtain ⟨r1, en1, h1⟩ := v_nearest (dl := encL l) (dm := encL m) (.inl rfl) (.inl rfl) hl hm zl zm b3
  obtain ⟨r2, en2, h2⟩ := v_nearest (dl := .tup (m.map encB)) (dm := encL l) (.inr rfl) (.inl rfl) hm hl zm zl b3
  have q1 : r1 = r := Least.uniq (p := Pr l m) (fun i j h hp => hp.mono h) (fun i => .rfl) h1 hd
  have q2 : r2 = r := Least.uniq (p := Pr m l) (fun i j h hp => hp.mono h) (fun i => ⟨Pr.swap, Pr.swap⟩) h2 hd
  subst q1 q2
  obtain ⟨l', b4, es, hp⟩ := v_shuffled zl b3
  have zl' : l'.length ≤ 20 := by rw [hp.length_eq]; exact zl
  have hl' : l'.all okB = true := by rw [hp.all_eq]; exact hl
  obtain ⟨r3, en3, h3⟩ := v_nearest (dl := encL l) (dm := encL l') (.inl rfl) (.inl rfl) hl hl' zl zl' b4
  have hr3 : r3 = .int 0 := by
    have h0 := pr_perm zl hp
    cases h3 with
    | none h => exact absurd (h0.mono (by omega)) h
    | some e i0 i1 i2 i3 =>
      congr 1
      have : ¬ 0 < e := fun z => i3 0 (by omega) z h0
      omega
  subst hr3
  have t1 := told_ok hd (x0 := .un) (x1 := .va .bag) (x2 := .va (if k = 3 then .int 20 else .int 5)) (x3 := .va (encL l)) (x4 := .va (encL m)) (b := b3)
  have lp : ∀ s6, forL (gNm 6) toldS [r2, r2] [.un, .va .bag, .va (if k = 3 then .int 20 else .int 5), .va (encL l), .va (encL m), .va r2, s6] b3 = .nx [.un, .va .bag, .va (if k = 3 then .int 20 else .int 5), .va (encL l), .va (encL m), .va r2, .va r2] b3 := fun s6 => by
    rw [forL_nx (g := gNm 6) rfl t1, forL_nx (g := gNm 6) rfl t1]
    rfl
  have lp := lp .un
  have askA : ∀ e, 0 ≤ e → e ≤ 2000 → Asked l m e := fun e i0 i1 => ⟨hl, zl, hm, zm, i0, i1⟩
  unfold toldS at lp
  cases hd with
  | none hn =>
    obtain ⟨x, y, hT, p1, p2⟩ := v_told (dl := encL l) (dm := encL m) (.inl rfl) (.inl rfl) (askA 2000 (by omega) (by omega)) b3
    refine ⟨b3, ?_⟩
    cases hT with
    | pair ps hg hp hz => exact absurd ⟨ps, .of hg hp⟩ hn
    | ban i L hi hg =>
      have z : isNonD (.tup [.int i, .tup (L.map encI)]) = false := rfl
      by_cases hk : k = 3
      · rw [if_pos hk] at e3 lp
        have e3 : fm__law_lists [.bag, .int w, .int 20] b2 = _ := e3
        simp only [encL] at e3 lp ed en1 en2 p1 p2
        simp [ms_law, List.replicate, e1, hk, e2, e3, ed, en1, en2, lp, p1, p2, z]
      · rw [if_neg hk] at e3 lp
        have e3 : fm__law_lists [.bag, .int w, .int 5] b2 = _ := e3
        simp only [encL] at e3 lp ed en1 en2 p1 p2
        simp [ms_law, List.replicate, e1, hk, e2, e3, ed, en1, en2, lp, p1, p2, z]
  | some e i0 i1 i2 i3 =>
    obtain ⟨x, y, hT, p1, p2⟩ := v_told (dl := encL l) (dm := encL m) (.inl rfl) (.inl rfl) (askA e i0 i1) b3
    refine ⟨b4, ?_⟩
    have z2 : isNonD (.int e) = false := rfl
    cases hT with
    | ban i L hi hg => exact absurd ((told_pr (.ban i L hi hg)).mpr i2) (by decide)
    | pair ps hg hp hz =>
      have z : isNonD (.tup (ps.map encN)) = false := rfl
      by_cases he : 0 < e
      · obtain ⟨x, y, hT', p3, p4⟩ := v_told (dl := encL l) (dm := encL m) (.inl rfl) (.inl rfl) (askA (e - 1) (by omega) (by omega)) b3
        cases hT' with
        | pair ps' hg' hp' hz' => exact absurd ⟨ps', .of hg' hp'⟩ (i3 (e - 1) (by omega) (by omega))
        | ban i L hi hg' =>
          have z3 : isNonD (.tup [.int i, .tup (L.map encI)]) = false := rfl
          by_cases hk : k = 3
          · rw [if_pos hk] at e3 lp
            have e3 : fm__law_lists [.bag, .int w, .int 20] b2 = _ := e3
            simp only [encL] at e3 lp ed en1 en2 p1 p2 p3 p4 es en3
            simp [ms_law, List.replicate, e1, hk, e2, e3, ed, en1, en2, lp, p1, p2, z, z2, z3, he, p3, p4, es, en3]
          · rw [if_neg hk] at e3 lp
            have e3 : fm__law_lists [.bag, .int w, .int 5] b2 = _ := e3
            simp only [encL] at e3 lp ed en1 en2 p1 p2 p3 p4 es en3
            simp [ms_law, List.replicate, e1, hk, e2, e3, ed, en1, en2, lp, p1, p2, z, z2, z3, he, p3, p4, es, en3]
      · by_cases hk : k = 3
        · rw [if_pos hk] at e3 lp
          have e3 : fm__law_lists [.bag, .int w, .int 20] b2 = _ := e3
          simp only [encL] at e3 lp ed en1 en2 p1 p2 es en3
          simp [ms_law, List.replicate, e1, hk, e2, e3, ed, en1, en2, lp, p1, p2, z, z2, he, es, en3]
        · rw [if_neg hk] at e3 lp
          have e3 : fm__law_lists [.bag, .int w, .int 5] b2 = _ := e3
          simp only [encL] at e3 lp ed en1 en2 p1 p2 es en3
          simp [ms_law, List.replicate, e1, hk, e2, e3, ed, en1, en2, lp, p1, p2, z, z2, he, es, en3]
end

end Mr
open PySem PySem.W
set_option maxHeartbeats 0 in
theorem PySem.Challenge.cw_mapwebs_k47_whole_nearest_holds : PySem.Challenge.rw_mapwebs_k47_whole_nearest.Holds := by
  w_on; o_law; k_head; (case hw => w_witness2)
  k_fill
  refine L2.walk_of (l := PySem.Challenge.rw_mapwebs_k47_whole_nearest) (n := 63) (k := 35) (x := "_law_script") (CX := fun _ => L2.CX0) (sp := fun w => Mr.spLaw _) rfl (by decide) rfl ⟨rfl, by decide, by decide⟩ (fun w h Y => PySem.W.kIn_of Y) ?F (fun _ _ a ns hl _ hS => ⟨a, ns, rfl, hS, hl, fun _ => rfl⟩) (fun _ _ _ _ _ h => h)
  case F =>
    intro w mg fa h KX G hmg
    refine' Mr.all_ok KX G hmg ?a_law ?l_law ?c_law ?k_law (Mr.defAt_mk KX G (x := "_law_bag") (st := Mr.s__law_bag) (ps := ["_law_script"]) ?a__law_bag ?l__law_bag ?c__law_bag ?k__law_bag (fun _ _ _ _ _ _ us hl => match us, hl with | [_], _ => rfl)) (Mr.defAt_mk KX G (x := "_law_pick") (st := Mr.s__law_pick) (ps := ["_law_bag_here", "_law_many"]) ?a__law_pick ?l__law_pick ?c__law_pick ?k__law_pick (fun _ _ _ _ _ _ us hl => match us, hl with | [_, _], _ => rfl)) (Mr.defAt_mk KX G (x := "_law_some") (st := Mr.s__law_some) (ps := ["_law_bag_here", "_law_things"]) ?a__law_some ?l__law_some ?c__law_some ?k__law_some (fun _ _ _ _ _ _ us hl => match us, hl with | [_, _], _ => rfl)) (Mr.defAt_mk KX G (x := "_law_bar") (st := Mr.s__law_bar) (ps := ["_law_bag_here", "_law_wide"]) ?a__law_bar ?l__law_bar ?c__law_bar ?k__law_bar (fun _ _ _ _ _ _ us hl => match us, hl with | [_, _], _ => rfl)) (Mr.defAt_mk KX G (x := "_law_moved") (st := Mr.s__law_moved) (ps := ["_law_bag_here", "_law_bar_here", "_law_wide"]) ?a__law_moved ?l__law_moved ?c__law_moved ?k__law_moved (fun _ _ _ _ _ _ us hl => match us, hl with | [_, _, _], _ => rfl)) (Mr.defAt_mk KX G (x := "_law_lists") (st := Mr.s__law_lists) (ps := ["_law_bag_here", "_law_wide", "_law_most"]) ?a__law_lists ?l__law_lists ?c__law_lists ?k__law_lists (fun _ _ _ _ _ _ us hl => match us, hl with | [_, _, _], _ => rfl)) (Mr.defAt_mk KX G (x := "_law_steps") (st := Mr.s__law_steps) (ps := ["_law_one", "_law_other"]) ?a__law_steps ?l__law_steps ?c__law_steps ?k__law_steps (fun _ _ _ _ _ _ us hl => match us, hl with | [_, _], _ => rfl)) (Mr.defAt_mk KX G (x := "_law_is_long") (st := Mr.s__law_is_long) (ps := ["_law_bar", "_law_e"]) ?a__law_is_long ?l__law_is_long ?c__law_is_long ?k__law_is_long (fun _ _ _ _ _ _ us hl => match us, hl with | [_, _], _ => rfl)) (Mr.defAt_mk KX G (x := "_law_fits") (st := Mr.s__law_fits) (ps := ["_law_bar", "_law_other", "_law_e"]) ?a__law_fits ?l__law_fits ?c__law_fits ?k__law_fits (fun _ _ _ _ _ _ us hl => match us, hl with | [_, _, _], _ => rfl)) (Mr.defAt_mk KX G (x := "_law_paired") (st := Mr.s__law_paired) (ps := ["_law_one", "_law_other", "_law_e", "_law_used", "_law_at"]) ?a__law_paired ?l__law_paired ?c__law_paired ?k__law_paired (fun _ _ _ _ _ _ us hl => match us, hl with | [_, _, _, _, _], _ => rfl)) (Mr.defAt_mk KX G (x := "_law_found_for") (st := Mr.s__law_found_for) (ps := ["_law_at", "_law_edges", "_law_taken", "_law_seen"]) ?a__law_found_for ?l__law_found_for ?c__law_found_for ?k__law_found_for (fun _ _ _ _ _ _ us hl => match us, hl with | [_, _, _, _], _ => rfl)) (Mr.defAt_mk KX G (x := "_law_all_found") (st := Mr.s__law_all_found) (ps := ["_law_one", "_law_other", "_law_e"]) ?a__law_all_found ?l__law_all_found ?c__law_all_found ?k__law_all_found (fun _ _ _ _ _ _ us hl => match us, hl with | [_, _, _], _ => rfl)) (Mr.defAt_mk KX G (x := "_law_is_there") (st := Mr.s__law_is_there) (ps := ["_law_one", "_law_other", "_law_e"]) ?a__law_is_there ?l__law_is_there ?c__law_is_there ?k__law_is_there (fun _ _ _ _ _ _ us hl => match us, hl with | [_, _, _], _ => rfl)) (Mr.defAt_mk KX G (x := "_law_due") (st := Mr.s__law_due) (ps := ["_law_one", "_law_other"]) ?a__law_due ?l__law_due ?c__law_due ?k__law_due (fun _ _ _ _ _ _ us hl => match us, hl with | [_, _], _ => rfl)) (Mr.defAt_mk KX G (x := "is_integer") (st := Mr.s_is_integer) (ps := ["thing"]) ?a_is_integer ?l_is_integer ?c_is_integer ?k_is_integer (fun _ _ _ _ _ _ us hl => match us, hl with | [_], _ => rfl)) (Mr.defAt_mk KX G (x := "is_within") (st := Mr.s_is_within) (ps := ["thing", "least", "most"]) ?a_is_within ?l_is_within ?c_is_within ?k_is_within (fun _ _ _ _ _ _ us hl => match us, hl with | [_, _, _], _ => rfl)) (Mr.defAt_mk KX G (x := "is_bar") (st := Mr.s_is_bar) (ps := ["thing"]) ?a_is_bar ?l_is_bar ?c_is_bar ?k_is_bar (fun _ _ _ _ _ _ us hl => match us, hl with | [_], _ => rfl)) (Mr.defAt_mk KX G (x := "check_bars") (st := Mr.s_check_bars) (ps := ["thing"]) ?a_check_bars ?l_check_bars ?c_check_bars ?k_check_bars (fun _ _ _ _ _ _ us hl => match us, hl with | [_], _ => rfl)) (Mr.defAt_mk KX G (x := "is_long") (st := Mr.s_is_long) (ps := ["bar", "e"]) ?a_is_long ?l_is_long ?c_is_long ?k_is_long (fun _ _ _ _ _ _ us hl => match us, hl with | [_, _], _ => rfl)) (Mr.defAt_mk KX G (x := "do_fit") (st := Mr.s_do_fit) (ps := ["bar", "other", "e"]) ?a_do_fit ?l_do_fit ?c_do_fit ?k_do_fit (fun _ _ _ _ _ _ us hl => match us, hl with | [_, _, _], _ => rfl)) (Mr.defAt_mk KX G (x := "back_along") (st := Mr.s_back_along) (ps := ["came", "paired", "last"]) ?a_back_along ?l_back_along ?c_back_along ?k_back_along (fun _ _ _ _ _ _ us hl => match us, hl with | [_, _, _], _ => rfl)) (Mr.defAt_mk KX G (x := "way_from") (st := Mr.s_way_from) (ps := ["mine", "others", "e", "paired", "begin"]) ?a_way_from ?l_way_from ?c_way_from ?k_way_from (fun _ _ _ _ _ _ us hl => match us, hl with | [_, _, _, _, _], _ => rfl)) (Mr.defAt_mk KX G (x := "with_all") (st := Mr.s_with_all) (ps := ["mine", "others", "e", "paired"]) ?a_with_all ?l_with_all ?c_with_all ?k_with_all (fun _ _ _ _ _ _ us hl => match us, hl with | [_, _, _, _], _ => rfl)) (Mr.defAt_mk KX G (x := "paired_or_banned") (st := Mr.s_paired_or_banned) (ps := ["one", "other", "e"]) ?a_paired_or_banned ?l_paired_or_banned ?c_paired_or_banned ?k_paired_or_banned (fun _ _ _ _ _ _ us hl => match us, hl with | [_, _, _], _ => rfl)) (Mr.defAt_mk KX G (x := "nearest") (st := Mr.s_nearest) (ps := ["one", "other"]) ?a_nearest ?l_nearest ?c_nearest ?k_nearest (fun _ _ _ _ _ _ us hl => match us, hl with | [_, _], _ => rfl)) (Mr.defAt_mk KX G (x := "check_within") (st := Mr.s_check_within) (ps := ["thing", "least", "most"]) ?a_check_within ?l_check_within ?c_check_within ?k_check_within (fun _ _ _ _ _ _ us hl => match us, hl with | [_, _, _], _ => rfl)) (Mr.defAt_mk KX G (x := "check_asked") (st := Mr.s_check_asked) (ps := ["one", "other", "e"]) ?a_check_asked ?l_check_asked ?c_check_asked ?k_check_asked (fun _ _ _ _ _ _ us hl => match us, hl with | [_, _, _], _ => rfl)) (Mr.defAt_mk KX G (x := "pairing") (st := Mr.s_pairing) (ps := ["one", "other", "e"]) ?a_pairing ?l_pairing ?c_pairing ?k_pairing (fun _ _ _ _ _ _ us hl => match us, hl with | [_, _, _], _ => rfl)) (Mr.defAt_mk KX G (x := "ban") (st := Mr.s_ban) (ps := ["one", "other", "e"]) ?a_ban ?l_ban ?c_ban ?k_ban (fun _ _ _ _ _ _ us hl => match us, hl with | [_, _, _], _ => rfl)) (Mr.defAt_mk KX G (x := "_law_shuffled") (st := Mr.s__law_shuffled) (ps := ["_law_bag_here", "_law_things"]) ?a__law_shuffled ?l__law_shuffled ?c__law_shuffled ?k__law_shuffled (fun _ _ _ _ _ _ us hl => match us, hl with | [_, _], _ => rfl)) ⟨PySem.W.mg_none_of KX G ?z_abs, PySem.W.mg_none_of KX G ?z_all, PySem.W.mg_none_of KX G ?z_bool, PySem.W.mg_none_of KX G ?z_dict, PySem.W.mg_none_of KX G ?z_enumerate, PySem.W.mg_none_of KX G ?z_int, PySem.W.mg_none_of KX G ?z_isinstance, PySem.W.mg_none_of KX G ?z_len, PySem.W.mg_none_of KX G ?z_list, PySem.W.mg_none_of KX G ?z_max, PySem.W.mg_none_of KX G ?z_min, PySem.W.mg_none_of KX G ?z_range, PySem.W.mg_none_of KX G ?z_sorted, PySem.W.mg_none_of KX G ?z_tuple, Mr.cInt_mk KX G ?z_FARTHEST, Mr.cInt_mk KX G ?z_MOST_BARS, Mr.cInt_mk KX G ?z_MOST_DISTANCE⟩ Mr.says_law
    (case a_law => k_is); (case l_law => k_is); (case c_law => k_is); (case k_law => k_is)
    (case a__law_bag => k_is); (case l__law_bag => k_is); (case c__law_bag => k_is); (case k__law_bag => k_is)
    (case a__law_pick => k_is); (case l__law_pick => k_is); (case c__law_pick => k_is); (case k__law_pick => k_is)
    (case a__law_some => k_is); (case l__law_some => k_is); (case c__law_some => k_is); (case k__law_some => k_is)
    (case a__law_bar => k_is); (case l__law_bar => k_is); (case c__law_bar => k_is); (case k__law_bar => k_is)
    (case a__law_moved => k_is); (case l__law_moved => k_is); (case c__law_moved => k_is); (case k__law_moved => k_is)
    (case a__law_lists => k_is); (case l__law_lists => k_is); (case c__law_lists => k_is); (case k__law_lists => k_is)
    (case a__law_steps => k_is); (case l__law_steps => k_is); (case c__law_steps => k_is); (case k__law_steps => k_is)
    (case a__law_is_long => k_is); (case l__law_is_long => k_is); (case c__law_is_long => k_is); (case k__law_is_long => k_is)
    (case a__law_fits => k_is); (case l__law_fits => k_is); (case c__law_fits => k_is); (case k__law_fits => k_is)
    (case a__law_paired => k_is); (case l__law_paired => k_is); (case c__law_paired => k_is); (case k__law_paired => k_is)
    (case a__law_found_for => k_is); (case l__law_found_for => k_is); (case c__law_found_for => k_is); (case k__law_found_for => k_is)
    (case a__law_all_found => k_is); (case l__law_all_found => k_is); (case c__law_all_found => k_is); (case k__law_all_found => k_is)
    (case a__law_is_there => k_is); (case l__law_is_there => k_is); (case c__law_is_there => k_is); (case k__law_is_there => k_is)
    (case a__law_due => k_is); (case l__law_due => k_is); (case c__law_due => k_is); (case k__law_due => k_is)
    (case a_is_integer => k_is); (case l_is_integer => k_is); (case c_is_integer => k_is); (case k_is_integer => k_is)
    (case a_is_within => k_is); (case l_is_within => k_is); (case c_is_within => k_is); (case k_is_within => k_is)
    (case a_is_bar => k_is); (case l_is_bar => k_is); (case c_is_bar => k_is); (case k_is_bar => k_is)
    (case a_check_bars => k_is); (case l_check_bars => k_is); (case c_check_bars => k_is); (case k_check_bars => k_is)
    (case a_is_long => k_is); (case l_is_long => k_is); (case c_is_long => k_is); (case k_is_long => k_is)
    (case a_do_fit => k_is); (case l_do_fit => k_is); (case c_do_fit => k_is); (case k_do_fit => k_is)
    (case a_back_along => k_is); (case l_back_along => k_is); (case c_back_along => k_is); (case k_back_along => k_is)
    (case a_way_from => k_is); (case l_way_from => k_is); (case c_way_from => k_is); (case k_way_from => k_is)
    (case a_with_all => k_is); (case l_with_all => k_is); (case c_with_all => k_is); (case k_with_all => k_is)
    (case a_paired_or_banned => k_is); (case l_paired_or_banned => k_is); (case c_paired_or_banned => k_is); (case k_paired_or_banned => k_is)
    (case a_nearest => k_is); (case l_nearest => k_is); (case c_nearest => k_is); (case k_nearest => k_is)
    (case a_check_within => k_is); (case l_check_within => k_is); (case c_check_within => k_is); (case k_check_within => k_is)
    (case a_check_asked => k_is); (case l_check_asked => k_is); (case c_check_asked => k_is); (case k_check_asked => k_is)
    (case a_pairing => k_is); (case l_pairing => k_is); (case c_pairing => k_is); (case k_pairing => k_is)
    (case a_ban => k_is); (case l_ban => k_is); (case c_ban => k_is); (case k_ban => k_is)
    (case a__law_shuffled => k_is); (case l__law_shuffled => k_is); (case c__law_shuffled => k_is); (case k__law_shuffled => k_is)
    (case z_abs => k_is)
    (case z_all => k_is)
    (case z_bool => k_is)
    (case z_dict => k_is)
    (case z_enumerate => k_is)
    (case z_int => k_is)
    (case z_isinstance => k_is)
    (case z_len => k_is)
    (case z_list => k_is)
    (case z_max => k_is)
    (case z_min => k_is)
    (case z_range => k_is)
    (case z_sorted => k_is)
    (case z_tuple => k_is)
    (case z_FARTHEST => k_is)
    (case z_MOST_BARS => k_is)
    (case z_MOST_DISTANCE => k_is)
