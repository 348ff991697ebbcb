import PyProof.Rows.All
import Wide.All
import OpenK.AllK
import Wide.FinOn
import HandS.ForMost
import HandS.TupAny
import HandS.Deep
import HandS.Style
import HandS.More
import HandS.DictComp
import HandS.Zip
import HandS.WordsExc
import HandS.IsInst
import HandS.Defaults
import HandS.MakeKwOnly
import HandS.Strs
import PyProof.DictUpdate
import HandS.Property
import PySem.Challenge.RW_everymiss_k16_whole_any_start
set_option Elab.async false
set_option linter.all false
set_option maxRecDepth 100000
set_option maxHeartbeats 4000000
/-! Deep values over the hand layer: tuples are values here, lists, dicts and objects stand at addresses. -/
namespace Dv
open PySem L2

abbrev Fr0 := PySem.W.Frag
inductive T where
  | non | bl (b : Bool) | int (i : Int) | str (x : Str) | tup (xs : List T) | ref (a : Addr) | ty (n : String) | ptup (xs : List T)
inductive O where
  | lst (xs : List T)
  | dic (kvs : List (T × T))
  | fdic (ob : Obj) (raw : List (Key × V)) (kvs : List (T × T))
  | ins (C : Addr) (fs : List (Str × T))
  | drw (n : Nat)
abbrev Gp := Addr → Option O
def gup (G : Gp) (a : Addr) (o : O) : Gp := fun b => if b = a then some o else G b
theorem gup_same {G : Gp} {a : Addr} {o : O} : gup G a o a = some o := by unfold gup; simp
theorem gup_ne {G : Gp} {a b : Addr} {o : O} (h : b ≠ a) : gup G a o b = G b := by unfold gup; simp [h]
theorem gup_gup {G : Gp} {a : Addr} {o u : O} : gup (gup G a o) a u = gup G a u := by
  funext b; unfold gup; split <;> rfl
theorem gup_comm {G : Gp} {a b : Addr} {o u : O} (h : a ≠ b) : gup (gup G a o) b u = gup (gup G b u) a o := by
  funext c; unfold gup
  by_cases h1 : c = b
  · subst h1; simp [Ne.symm h]
  · simp [h1]

mutual
inductive Rel (K : Fr0) (H : Hp) : V → T → Prop
  | non : Rel K H .non .non
  | bl (b : Bool) : Rel K H (.bl b) (.bl b)
  | int (i : Int) : Rel K H (.int i) (.int i)
  | str (x : Str) : Rel K H (.str x) (.str x)
  | ty (n : String) : Rel K H (.ty n) (.ty n)
  | ref (a : Addr) : Rel K H (.ref a) (.ref a)
  | tup {p : Addr} {xs : List V} {ts : List T} : SqT K H p xs → RelL K H xs ts → Rel K H (.ref p) (.tup ts)
  | ptup {p : Addr} {o : Obj} {xs : List V} {ts : List T} : H p = some (.frz o (.tup xs)) → o.dict = none → RelL K H xs ts → Rel K H (.ref p) (.ptup ts)
inductive RelL (K : Fr0) (H : Hp) : List V → List T → Prop
  | nil : RelL K H [] []
  | cons {v : V} {t : T} {vs : List V} {ts : List T} : Rel K H v t → RelL K H vs ts → RelL K H (v :: vs) (t :: ts)
end

def Stay (K : Fr0) (H H' : Hp) : Prop := (∀ p xs, SqT K H p xs → SqT K H' p xs) ∧ ∀ p o xs, H p = some (.frz o (.tup xs)) → H' p = some (.frz o (.tup xs))
mutual
theorem Rel.stay {K : Fr0} {H H' : Hp} (st : Stay K H H') : ∀ {t : T} {v : V}, Rel K H v t → Rel K H' v t
  | .non, _, .non => .non
  | .bl _, _, .bl _ => .bl _
  | .int _, _, .int _ => .int _
  | .str _, _, .str _ => .str _
  | .ty _, _, .ty _ => .ty _
  | .ref _, _, .ref _ => .ref _
  | .tup _, _, .tup h r => .tup (st.1 _ _ h) (RelL.stay st r)
  | .ptup _, _, .ptup h d r => .ptup (st.2 _ _ _ h) d (RelL.stay st r)
theorem RelL.stay {K : Fr0} {H H' : Hp} (st : Stay K H H') : ∀ {ts : List T} {vs : List V}, RelL K H vs ts → RelL K H' vs ts
  | [], _, .nil => .nil
  | _ :: _, _, .cons r t => .cons (Rel.stay st r) (RelL.stay st t)
end
theorem RelL.length {K : Fr0} {H : Hp} : ∀ {vs : List V} {ts : List T}, RelL K H vs ts → vs.length = ts.length
  | _, _, .nil => rfl
  | _, _, .cons _ r => by simp [RelL.length r]
theorem RelL.get {K : Fr0} {H : Hp} : ∀ {vs : List V} {ts : List T} {i : Nat} {t : T}, RelL K H vs ts → ts[i]? = some t → ∃ v, vs[i]? = some v ∧ Rel K H v t
  | _, _, i, t, .nil, e => by simp at e
  | _, _, 0, t, .cons r _, e => by simp at e; subst e; exact ⟨_, by simp, r⟩
  | _, _, i + 1, t, .cons _ r, e => by
    obtain ⟨v, h1, h2⟩ := RelL.get (i := i) (t := t) r (by simpa using e)
    exact ⟨v, by simpa using h1, h2⟩
theorem RelL.getV {K : Fr0} {H : Hp} : ∀ {vs : List V} {ts : List T} {i : Nat} {v : V}, RelL K H vs ts → vs[i]? = some v → ∃ t, ts[i]? = some t ∧ Rel K H v t
  | _, _, i, v, .nil, e => by simp at e
  | _, _, 0, v, .cons r _, e => by simp at e; subst e; exact ⟨_, by simp, r⟩
  | _, _, i + 1, v, .cons _ r, e => by
    obtain ⟨t, h1, h2⟩ := RelL.getV (i := i) (v := v) r (by simpa using e)
    exact ⟨t, by simpa using h1, h2⟩
theorem RelL.app {K : Fr0} {H : Hp} : ∀ {vs ws : List V} {ts us : List T}, RelL K H vs ts → RelL K H ws us → RelL K H (vs ++ ws) (ts ++ us)
  | _, _, _, _, .nil, s => s
  | _, _, _, _, .cons r t, s => .cons r (RelL.app t s)
theorem RelL.drop {K : Fr0} {H : Hp} : ∀ {vs : List V} {ts : List T} (n : Nat), RelL K H vs ts → RelL K H (vs.drop n) (ts.drop n)
  | _, _, 0, r => r
  | _, _, _ + 1, .nil => .nil
  | _, _, n + 1, .cons _ r => RelL.drop n r
theorem RelL.take {K : Fr0} {H : Hp} : ∀ {vs : List V} {ts : List T} (n : Nat), RelL K H vs ts → RelL K H (vs.take n) (ts.take n)
  | _, _, 0, _ => .nil
  | _, _, _ + 1, .nil => .nil
  | _, _, n + 1, .cons h r => .cons h (RelL.take n r)
theorem RelL.set {K : Fr0} {H : Hp} {v : V} {t : T} (h : Rel K H v t) : ∀ {vs : List V} {ts : List T} (n : Nat), RelL K H vs ts → RelL K H (vs.set n v) (ts.set n t)
  | _, _, _, .nil => .nil
  | _, _, 0, .cons _ r => .cons h r
  | _, _, n + 1, .cons q r => .cons q (RelL.set h n r)
theorem RelL.erase {K : Fr0} {H : Hp} : ∀ {vs : List V} {ts : List T} (n : Nat), RelL K H vs ts → RelL K H (vs.eraseIdx n) (ts.eraseIdx n)
  | _, _, _, .nil => .nil
  | _, _, 0, .cons _ r => r
  | _, _, n + 1, .cons q r => .cons q (RelL.erase n r)
theorem RelL.rev {K : Fr0} {H : Hp} : ∀ {vs : List V} {ts : List T}, RelL K H vs ts → RelL K H vs.reverse ts.reverse
  | _, _, .nil => .nil
  | _, _, .cons q r => by
    rw [List.reverse_cons, List.reverse_cons]
    exact (RelL.rev r).app (.cons q .nil)

/-- a key as a deep value -/
def kT : Key → T
  | .inl i => .int i
  | .inr x => .str x
inductive RelD (K : Fr0) (H : Hp) : List (Key × V) → List (T × T) → Prop
  | nil : RelD K H [] []
  | cons {k : Key} {v : V} {t : T} {kvs : List (Key × V)} {ts : List (T × T)} : Rel K H v t → RelD K H kvs ts → RelD K H ((k, v) :: kvs) ((kT k, t) :: ts)
inductive RelF (K : Fr0) (H : Hp) : List (Str × V) → List (Str × T) → Prop
  | nil : RelF K H [] []
  | cons {k : Str} {v : V} {t : T} {kvs : List (Str × V)} {ts : List (Str × T)} : Rel K H v t → RelF K H kvs ts → RelF K H ((k, v) :: kvs) ((k, t) :: ts)
theorem RelD.stay {K : Fr0} {H H' : Hp} (st : Stay K H H') : ∀ {vs : List (Key × V)} {ts : List (T × T)}, RelD K H vs ts → RelD K H' vs ts
  | _, _, .nil => .nil
  | _, _, .cons r t => .cons (r.stay st) (RelD.stay st t)
theorem RelF.stay {K : Fr0} {H H' : Hp} (st : Stay K H H') : ∀ {vs : List (Str × V)} {ts : List (Str × T)}, RelF K H vs ts → RelF K H' vs ts
  | _, _, .nil => .nil
  | _, _, .cons r t => .cons (r.stay st) (RelF.stay st t)

/-- the dict of the draws as it stands -/
def drawKvs (lg it : Addr) (l t : Int) : List (Key × V) := [(.inr "large", .ref lg), (.inr "items", .ref it), (.inr "left", .int l), (.inr "turn", .int t)]
structure DrawR (H : Hp) (d : Addr) (n : Nat) (lg it : Addr) (l t : Int) (ls is : List Int) : Prop where
  hd : H d = some (.dK (drawKvs lg it l t))
  hlg : H lg = some (.lst (ls.map .int))
  hit : H it = some (.lst (is.map .int))
  ne : lg ≠ it
  lpos : ∀ x ∈ ls, 0 ≤ x
  ipos : ∀ x ∈ is, 0 ≤ x
  ilen : is.length ≤ 63
  llen : ls.length ≤ 63
  l0 : 0 ≤ l
  t0 : 0 ≤ t
  tn : t ≤ n
def Hid (H : Hp) (d b : Addr) : Prop := ∃ lg it l t, H d = some (.dK (drawKvs lg it l t)) ∧ (b = lg ∨ b = it)
def ORel (K : Fr0) (H : Hp) (a : Addr) : O → Prop
  | .lst ts => ∃ vs, H a = some (.lst vs) ∧ RelL K H vs ts
  | .dic ts => ∃ vs, H a = some (.dK vs) ∧ RelD K H vs ts
  | .fdic ob vs ts => H a = some (.frz ob (.dK vs)) ∧ RelD K H vs ts
  | .ins C ts => ∃ dx vs, H a = some (.ins C dx vs) ∧ RelF K H vs ts
  | .drw n => ∃ lg it l t ls is, DrawR H a n lg it l t ls is
def Own (H : Hp) (G : Gp) (a : Addr) : Prop := (∃ o, G a = some o) ∨ ∃ d n, G d = some (.drw n) ∧ Hid H d a
structure Step (H : Hp) (G : Gp) (H' : Hp) (G' : Gp) : Prop where
  fr : ∀ a o, H a = some o → ¬ Own H G a → H' a = some o ∧ ¬ Own H' G' a
  al : ∀ a o, H a = some o → ∃ o', H' a = some o'
theorem Step.refl (H : Hp) (G : Gp) : Step H G H G := ⟨fun _ _ h n => ⟨h, n⟩, fun _ o h => ⟨o, h⟩⟩
theorem Step.trans {H H1 H2 : Hp} {G G1 G2 : Gp} (a : Step H G H1 G1) (b : Step H1 G1 H2 G2) : Step H G H2 G2 :=
  ⟨fun c o h n => let ⟨h1, n1⟩ := a.fr c o h n; b.fr c o h1 n1, fun c o h => let ⟨o1, h1⟩ := a.al c o h; b.al c o1 h1⟩

/-- the states at the entries of what runs -/
abbrev En := List (Hp × Gp)
structure HRel (K : Fr0) (en : En) (H : Hp) (G : Gp) : Prop where
  obj : ∀ a o, G a = some o → ORel K H a o
  sep : ∀ d n b, G d = some (.drw n) → Hid H d b → G b = none
  one : ∀ d d' n n', G d = some (.drw n) → G d' = some (.drw n') → d = d'
  hist : ∀ e ∈ en, Step e.1 e.2 H G
/-- what a tracked cell holds below: no tuple -/
def kind : HO → Bool
  | .lst _ => true
  | .dK _ => true
  | .ins _ _ _ => true
  | .frz _ (.dK _) => true
  | _ => false
theorem ORel.kind {K : Fr0} {H : Hp} {a : Addr} {o : O} (h : ORel K H a o) : ∃ u, H a = some u ∧ kind u = true := by
  cases o with
  | lst ts => obtain ⟨vs, h, _⟩ := h; exact ⟨_, h, rfl⟩
  | dic ts => obtain ⟨vs, h, _⟩ := h; exact ⟨_, h, rfl⟩
  | fdic ob vs ts => obtain ⟨h, _⟩ := h; exact ⟨_, h, rfl⟩
  | ins C ts => obtain ⟨dx, vs, h, _⟩ := h; exact ⟨_, h, rfl⟩
  | drw n => obtain ⟨lg, it, l, t, ls, is, h⟩ := h; exact ⟨_, h.hd, rfl⟩
theorem drawKvs_inj {lg it lg' it' : Addr} {l t l' t' : Int} (h : drawKvs lg it l t = drawKvs lg' it' l' t') : lg = lg' ∧ it = it' ∧ l = l' ∧ t = t' := by
  unfold drawKvs at h
  simp at h
  exact ⟨h.1, h.2.1, h.2.2.1, h.2.2.2⟩
theorem Hid.kind {K : Fr0} {H : Hp} {G : Gp} {d b : Addr} {n : Nat} (g : HRel K en H G) (e : G d = some (.drw n)) (h : Hid H d b) : ∃ vs, H b = some (.lst vs) := by
  obtain ⟨lg, it, l, t, ls, is, r⟩ := g.obj d _ e
  obtain ⟨lg', it', l', t', e', hb⟩ := h
  rw [r.hd] at e'
  obtain ⟨e1, e2, _, _⟩ := drawKvs_inj (HO.dK.inj (Option.some.inj e'))
  subst e1 e2
  rcases hb with rfl | rfl
  · exact ⟨_, r.hlg⟩
  · exact ⟨_, r.hit⟩
theorem HRel.own_kind {K : Fr0} {H : Hp} {G : Gp} {a : Addr} (g : HRel K en H G) (h : Own H G a) : ∃ u, H a = some u ∧ kind u = true := by
  rcases h with ⟨o, e⟩ | ⟨d, n, e, h⟩
  · exact (g.obj a o e).kind
  · obtain ⟨vs, q⟩ := Hid.kind g e h
    exact ⟨_, q, rfl⟩
theorem Step.stay {K : Fr0} {H H' : Hp} {G G' : Gp} (g : HRel K en H G) (s : Step H G H' G') : Stay K H H' := by
  have nown : ∀ p o, H p = some o → kind o = false → H' p = some o := by
    intro p o e h1
    refine (s.fr p o e fun z => ?_).1
    obtain ⟨u, q, h2⟩ := g.own_kind z
    rw [e] at q
    cases q
    rw [h1] at h2
    cases h2
  refine ⟨fun p xs h => ?_, fun p o xs h => nown p _ h rfl⟩
  rcases h with (h | ⟨o, h⟩) | h
  · exact .inl (.inl (nown _ _ h rfl))
  · exact .inl (.inr ⟨o, nown _ _ h rfl⟩)
  · exact .inr h
theorem ORel.stay {K : Fr0} {H H' : Hp} {a : Addr} {o : O} (st : Stay K H H') (hd : ∀ n, o ≠ .drw n) (e : H' a = H a) (h : ORel K H a o) : ORel K H' a o := by
  cases o with
  | lst ts => obtain ⟨vs, h, r⟩ := h; exact ⟨vs, e.trans h, r.stay st⟩
  | dic ts => obtain ⟨vs, h, r⟩ := h; exact ⟨vs, e.trans h, r.stay st⟩
  | fdic ob vs ts => obtain ⟨h, r⟩ := h; exact ⟨e.trans h, r.stay st⟩
  | ins C ts => obtain ⟨dx, vs, h, r⟩ := h; exact ⟨dx, vs, e.trans h, r.stay st⟩
  | drw n => exact absurd rfl (hd n)
/-- what a tracked cell, or a new one, is turned into -/
theorem HRel.upd {K : Fr0} {H : Hp} {G : Gp} {a : Addr} {ho : HO} {o : O} (g : HRel K en H G) (ha : H a = none ∨ ∃ u, G a = some u ∧ ∀ n, u ≠ .drw n) (hd : ∀ n, o ≠ .drw n) (new : ORel K (L2.upd H a ho) a o) :
    HRel K en (L2.upd H a ho) (gup G a o) ∧ Step H G (L2.upd H a ho) (gup G a o) ∧ Stay K H (L2.upd H a ho) := by
  have hgn : ∀ n, G a ≠ some (.drw n) := by
    intro n z
    rcases ha with e | ⟨u, e, q⟩
    · obtain ⟨_, _, _, _, _, _, r⟩ := g.obj a _ z
      rw [r.hd] at e; cases e
    · rw [z] at e; exact q n (Option.some.inj e).symm
  have hnb : ∀ d n b, G d = some (.drw n) → Hid H d b → b ≠ a := by
    intro d n b e h z
    subst z
    rcases ha with e1 | ⟨u, e1, q⟩
    · obtain ⟨vs, e2⟩ := Hid.kind g e h
      rw [e1] at e2; cases e2
    · rw [g.sep d n b e h] at e1; cases e1
  have hda : ∀ d n, G d = some (.drw n) → d ≠ a := fun d n e z => hgn n (z ▸ e)
  have hidE : ∀ d n b, G d = some (.drw n) → (Hid (L2.upd H a ho) d b ↔ Hid H d b) := by
    intro d n b e
    unfold Hid
    rw [upd_ne (hda d n e)]
  have gdr : ∀ d n, gup G a o d = some (.drw n) ↔ G d = some (.drw n) := by
    intro d n
    by_cases h : d = a
    · subst h
      rw [gup_same]
      exact ⟨fun z => absurd (Option.some.inj z) (hd n), fun z => absurd z (hgn n)⟩
    · rw [gup_ne h]
  have ownE : ∀ b, b ≠ a → (Own (L2.upd H a ho) (gup G a o) b ↔ Own H G b) := by
    intro b hb
    unfold Own
    rw [gup_ne hb]
    constructor
    · rintro (z | ⟨d, n, e, h⟩)
      · exact .inl z
      · exact .inr ⟨d, n, (gdr d n).mp e, (hidE d n b ((gdr d n).mp e)).mp h⟩
    · rintro (z | ⟨d, n, e, h⟩)
      · exact .inl z
      · exact .inr ⟨d, n, (gdr d n).mpr e, (hidE d n b e).mpr h⟩
  have st : Stay K H (L2.upd H a ho) := by
    have pne : ∀ p u, H p = some u → kind u = false → p ≠ a := by
      intro p u e h1 z
      subst z
      rcases ha with e1 | ⟨u1, e1, q⟩
      · rw [e1] at e; cases e
      · obtain ⟨u2, q, h2⟩ := (g.obj p u1 e1).kind
        rw [e] at q
        cases q
        rw [h1] at h2
        cases h2
    refine ⟨fun p xs h => ?_, fun p o xs h => by rw [upd_ne (pne _ _ h rfl)]; exact h⟩
    rcases h with (h | ⟨u, h⟩) | h
    · exact .inl (.inl (by rw [upd_ne (pne _ _ h rfl)]; exact h))
    · exact .inl (.inr ⟨u, by rw [upd_ne (pne _ _ h rfl)]; exact h⟩)
    · exact .inr h
  have stp : Step H G (L2.upd H a ho) (gup G a o) := by
    refine ⟨fun b u e no => ?_, fun b u e => ?_⟩
    · have hb : b ≠ a := by
        intro z
        subst z
        rcases ha with e1 | ⟨u1, e1, _⟩
        · rw [e1] at e; cases e
        · exact no (.inl ⟨u1, e1⟩)
      exact ⟨by rw [upd_ne hb]; exact e, fun z => no ((ownE b hb).mp z)⟩
    · by_cases hb : b = a
      · subst hb; exact ⟨_, upd_same⟩
      · exact ⟨u, by rw [upd_ne hb]; exact e⟩
  refine ⟨⟨fun b u e => ?_, fun d n b e h => ?_, fun d d' n n' e e' => g.one d d' n n' ((gdr d n).mp e) ((gdr d' n').mp e'), fun e he => (g.hist e he).trans stp⟩, stp, st⟩
  · by_cases hb : b = a
    · subst hb
      rw [gup_same] at e
      cases e
      exact new
    · rw [gup_ne hb] at e
      by_cases hdr : ∃ n, u = .drw n
      · obtain ⟨n, rfl⟩ := hdr
        obtain ⟨lg, it, l, t, ls, is, r⟩ := g.obj b _ e
        have h1 : lg ≠ a := hnb b n lg e ⟨lg, it, l, t, r.hd, .inl rfl⟩
        have h2 : it ≠ a := hnb b n it e ⟨lg, it, l, t, r.hd, .inr rfl⟩
        exact ⟨lg, it, l, t, ls, is, ⟨by rw [upd_ne hb]; exact r.hd, by rw [upd_ne h1]; exact r.hlg, by rw [upd_ne h2]; exact r.hit, r.ne, r.lpos, r.ipos, r.ilen, r.llen, r.l0, r.t0, r.tn⟩⟩
      · exact (g.obj b u e).stay st (fun n z => hdr ⟨n, z⟩) (upd_ne hb)
  · have e' := (gdr d n).mp e
    have h' := (hidE d n b e').mp h
    rw [gup_ne (hnb d n b e' h')]
    exact g.sep d n b e' h'
/-- a new thing that is not tracked (a tuple) -/
theorem HRel.laid {K : Fr0} {H : Hp} {G : Gp} {a : Addr} {ho : HO} (g : HRel K en H G) (ha : H a = none) : HRel K en (L2.upd H a ho) G ∧ Step H G (L2.upd H a ho) G ∧ Stay K H (L2.upd H a ho) := by
  have ne : ∀ b u, H b = some u → b ≠ a := fun b u e z => by rw [z, ha] at e; cases e
  have gne : ∀ b u, G b = some u → b ≠ a := fun b u e => by
    obtain ⟨u, q, _⟩ := (g.obj b u e).kind
    exact ne b _ q
  have hidE : ∀ d n b, G d = some (.drw n) → (Hid (L2.upd H a ho) d b ↔ Hid H d b) := by
    intro d n b e
    unfold Hid
    rw [upd_ne (gne d _ e)]
  have st : Stay K H (L2.upd H a ho) := by
    refine ⟨fun p xs h => ?_, fun p o xs h => by rw [upd_ne (ne _ _ h)]; exact h⟩
    rcases h with (h | ⟨u, h⟩) | h
    · exact .inl (.inl (by rw [upd_ne (ne _ _ h)]; exact h))
    · exact .inl (.inr ⟨u, by rw [upd_ne (ne _ _ h)]; exact h⟩)
    · exact .inr h
  have stp : Step H G (L2.upd H a ho) G := by
    refine ⟨fun b u e no => ⟨by rw [upd_ne (ne b u e)]; exact e, fun z => no ?_⟩, fun b u e => ⟨u, by rw [upd_ne (ne b u e)]; exact e⟩⟩
    rcases z with z | ⟨d, n, e', h⟩
    · exact .inl z
    · exact .inr ⟨d, n, e', (hidE d n b e').mp h⟩
  refine ⟨⟨fun b u e => ?_, fun d n b e h => g.sep d n b e ((hidE d n b e).mp h), g.one, fun e he => (g.hist e he).trans stp⟩, stp, st⟩
  · by_cases hdr : ∃ n, u = .drw n
    · obtain ⟨n, rfl⟩ := hdr
      obtain ⟨lg, it, l, t, ls, is, r⟩ := g.obj b _ e
      exact ⟨lg, it, l, t, ls, is, ⟨by rw [upd_ne (gne b _ e)]; exact r.hd, by rw [upd_ne (ne _ _ r.hlg)]; exact r.hlg, by rw [upd_ne (ne _ _ r.hit)]; exact r.hit, r.ne, r.lpos, r.ipos, r.ilen, r.llen, r.l0, r.t0, r.tn⟩⟩
    · exact (g.obj b u e).stay st (fun n z => hdr ⟨n, z⟩) (upd_ne (gne b _ e))
/-- a write at a tracked cell, a new cell: the tuples stay -/
theorem stayL {K : Fr0} {H : Hp} {G : Gp} {a : Addr} {ho : HO} {u : O} (g : HRel K en H G) (e : G a = some u) (hn : ∀ n, u ≠ .drw n) : Stay K H (L2.upd H a ho) := by
  have pne : ∀ p u, H p = some u → kind u = false → p ≠ a := by
    intro p u' e' h1 z
    subst z
    obtain ⟨u2, q, h2⟩ := (g.obj p u e).kind
    rw [e'] at q
    cases q
    rw [h1] at h2
    cases h2
  refine ⟨fun p xs h => ?_, fun p o xs h => by rw [upd_ne (pne _ _ h rfl)]; exact h⟩
  rcases h with (h | ⟨u', h⟩) | h
  · exact .inl (.inl (by rw [upd_ne (pne _ _ h rfl)]; exact h))
  · exact .inl (.inr ⟨u', by rw [upd_ne (pne _ _ h rfl)]; exact h⟩)
  · exact .inr h
/-- less is tracked -/
def Sub (G G' : Gp) : Prop := ∀ a o, G a = some o → G' a = some o
theorem Sub.refl (G : Gp) : Sub G G := fun _ _ h => h
theorem Step.sub {H H' : Hp} {G G' G2 : Gp} (t : Step H G H' G') (s : Sub G2 G') : Step H G H' G2 :=
  ⟨fun a o e n => let ⟨h1, h2⟩ := t.fr a o e n; ⟨h1, fun z => h2 (z.imp (fun ⟨o, q⟩ => ⟨o, s _ _ q⟩) fun ⟨d, n, q, h⟩ => ⟨d, n, s _ _ q, h⟩)⟩, t.al⟩
theorem HRel.sub {K : Fr0} {H : Hp} {G G' : Gp} (g : HRel K en H G') (s : Sub G G') : HRel K en H G := by
  refine ⟨fun a o e => g.obj a o (s a o e), fun d n b e h => ?_, fun d d' n n' e e' => g.one d d' n n' (s _ _ e) (s _ _ e'), fun e he => (g.hist e he).sub s⟩
  cases q : G b with
  | none => rfl
  | some o =>
    have := g.sep d n b (s _ _ e) h
    rw [s _ _ q] at this; cases this
theorem HRel.fresh {K : Fr0} {H : Hp} {G : Gp} {a : Addr} (g : HRel K en H G) (h : H a = none) : G a = none := by
  cases q : G a with
  | none => rfl
  | some o =>
    obtain ⟨u, e, _⟩ := (g.obj a o q).kind
    rw [h] at e
    cases e

/-- other entries -/
theorem HRel.nil {K : Fr0} {en : En} {H : Hp} {G : Gp} (g : HRel K en H G) : HRel K [] H G := ⟨g.obj, g.sep, g.one, fun e he => by cases he⟩
theorem HRel.back {K : Fr0} {en : En} {H H' : Hp} {G G' : Gp} (g : HRel K en H G) (g' : HRel K [] H' G') (s : Step H G H' G') : HRel K en H' G' := ⟨g'.obj, g'.sep, g'.one, fun e he => (g.hist e he).trans s⟩
theorem HRel.enter {K : Fr0} {en : En} {H : Hp} {G : Gp} (g : HRel K en H G) : HRel K [(H, G)] H G := ⟨g.obj, g.sep, g.one, fun e he => by rw [List.mem_singleton.mp he]; exact Step.refl H G⟩

/-! ### slots -/
abbrev S2 := List (Option T)
structure SRel (K : Fr0) (H : Hp) (σ : L2.St) (S : S2) : Prop where
  len : σ.length = S.length
  at_ : ∀ (i : Nat) (t : T), S[i]? = some (some t) → ∃ v, σ[i]? = some (some v) ∧ Rel K H v t
theorem SRel.stay {K : Fr0} {H H' : Hp} {σ : L2.St} {S : S2} (r : SRel K H σ S) (st : Stay K H H') : SRel K H' σ S :=
  ⟨r.len, fun i t e => let ⟨v, h, q⟩ := r.at_ i t e; ⟨v, h, q.stay st⟩⟩
theorem SRel.set {K : Fr0} {H : Hp} {σ : L2.St} {S : S2} {v : V} {t : T} (r : SRel K H σ S) (h : Rel K H v t) (i : Nat) : SRel K H (σ.set i (some v)) (S.set i (some t)) := by
  refine ⟨by simp [r.len], fun j u e => ?_⟩
  by_cases hj : i = j
  · subst hj
    by_cases hl : i < S.length
    · rw [List.getElem?_set_self hl] at e
      cases e
      exact ⟨v, List.getElem?_set_self (by rw [r.len]; exact hl), h⟩
    · rw [List.getElem?_eq_none (by simpa using hl)] at e
      cases e
  · rw [List.getElem?_set_ne hj] at e
    rw [List.getElem?_set_ne hj]
    exact r.at_ j u e
def wipe2 (S : S2) : List Nat → S2
  | [] => S
  | v :: vs => (wipe2 S vs).set v none
theorem SRel.wipe {K : Fr0} {H : Hp} {σ : L2.St} {S : S2} (r : SRel K H σ S) : ∀ vs, SRel K H (L2.wipe σ vs) (wipe2 S vs)
  | [] => r
  | v :: vs => by
    have ih := SRel.wipe r vs
    refine ⟨by unfold L2.wipe wipe2; simp [ih.len], fun j u e => ?_⟩
    unfold wipe2 at e
    unfold L2.wipe
    by_cases hj : v = j
    · subst hj
      by_cases hl : v < (wipe2 S vs).length
      · rw [List.getElem?_set_self hl] at e; cases e
      · rw [List.getElem?_eq_none (by simpa using hl)] at e; cases e
    · rw [List.getElem?_set_ne hj] at e
      rw [List.getElem?_set_ne hj]
      exact ih.at_ j u e
theorem SRel.weak {K : Fr0} {H : Hp} {σ : L2.St} {S S' : S2} (r : SRel K H σ S) (hl : S'.length = S.length) (h : ∀ (i : Nat) (t : T), S'[i]? = some (some t) → S[i]? = some (some t)) : SRel K H σ S' :=
  ⟨r.len.trans hl.symm, fun i t e => r.at_ i t (h i t e)⟩

/-! ### readings over deep values, lowered -/
abbrev QT := T → Gp → Prop
abbrev LE := S2 → Gp → QT → Prop
abbrev LT := S2 → Gp → (Bool → Gp → Prop) → Prop
abbrev LA := S2 → Gp → (List T → Gp → Prop) → Prop
abbrev R2T := T → T → Gp → QT → Prop
abbrev R1T := T → Gp → QT → Prop
abbrev RLT := List T → Gp → QT → Prop
abbrev RMT := T → List T → Gp → QT → Prop
def low (K : Fr0) (en : En) (le : LE) : TE := fun σ H Q => ∃ S G Φ, SRel K H σ S ∧ HRel K en H G ∧ le S G Φ ∧ ∀ t G' v H', Φ t G' → Rel K H' v t → HRel K en H' G' → Step H G H' G' → Q v H'
def lowT (K : Fr0) (en : En) (le : LT) : TT := fun σ H Q => ∃ S G Φ, SRel K H σ S ∧ HRel K en H G ∧ le S G Φ ∧ ∀ b G' H', Φ b G' → HRel K en H' G' → Step H G H' G' → Q b H'
def lowA (K : Fr0) (en : En) (le : LA) : TA := fun σ H Q => ∃ S G Φ, SRel K H σ S ∧ HRel K en H G ∧ le S G Φ ∧ ∀ ts G' vs H', Φ ts G' → RelL K H' vs ts → HRel K en H' G' → Step H G H' G' → Q vs H'
def low2 (K : Fr0) (en : En) (r : R2T) : R2 := fun x y H Q => ∃ t u G Φ, Rel K H x t ∧ Rel K H y u ∧ HRel K en H G ∧ r t u G Φ ∧ ∀ t G' v H', Φ t G' → Rel K H' v t → HRel K en H' G' → Step H G H' G' → Q v H'
def low1 (K : Fr0) (en : En) (r : R1T) : V → Hp → VK → Prop := fun x H Q => ∃ t G Φ, Rel K H x t ∧ HRel K en H G ∧ r t G Φ ∧ ∀ t G' v H', Φ t G' → Rel K H' v t → HRel K en H' G' → Step H G H' G' → Q v H'
def lowC (K : Fr0) (en : En) (r : RLT) : List V → Hp → VK → Prop := fun xs H Q => ∃ ts G Φ, RelL K H xs ts ∧ HRel K en H G ∧ r ts G Φ ∧ ∀ t G' v H', Φ t G' → Rel K H' v t → HRel K en H' G' → Step H G H' G' → Q v H'
def lowM (K : Fr0) (en : En) (r : RMT) : V → List V → Hp → VK → Prop := fun x xs H Q => ∃ t ts G Φ, Rel K H x t ∧ RelL K H xs ts ∧ HRel K en H G ∧ r t ts G Φ ∧ ∀ t G' v H', Φ t G' → Rel K H' v t → HRel K en H' G' → Step H G H' G' → Q v H'
structure LEnds where
  nx : S2 → Gp → Prop
  rt : QT
  bk : S2 → Gp → Prop := fun _ _ => False
  ct : S2 → Gp → Prop := fun _ _ => False
abbrev LS := LEnds → S2 → Gp → Prop
structure EndsOk (K : Fr0) (en : En) (H : Hp) (G : Gp) (L : LEnds) (D : Ends) : Prop where
  nx : ∀ S' G' σ' H', L.nx S' G' → SRel K H' σ' S' → HRel K en H' G' → Step H G H' G' → D.nx σ' H'
  rt : ∀ t G' v H', L.rt t G' → Rel K H' v t → HRel K en H' G' → Step H G H' G' → D.rt v H'
  bk : ∀ S' G' σ' H', L.bk S' G' → SRel K H' σ' S' → HRel K en H' G' → Step H G H' G' → D.bk σ' H'
  ct : ∀ S' G' σ' H', L.ct S' G' → SRel K H' σ' S' → HRel K en H' G' → Step H G H' G' → D.ct σ' H'
theorem EndsOk.step {K : Fr0} {H H1 : Hp} {G G1 : Gp} {L : LEnds} {D : Ends} (e : EndsOk K en H G L D) (s : Step H G H1 G1) : EndsOk K en H1 G1 L D :=
  ⟨fun S G σ H a b c d => e.nx S G σ H a b c (s.trans d), fun S G σ H a b c d => e.rt S G σ H a b c (s.trans d), fun S G σ H a b c d => e.bk S G σ H a b c (s.trans d), fun S G σ H a b c d => e.ct S G σ H a b c (s.trans d)⟩
def lowS (K : Fr0) (en : En) (ls : LS) : TS := fun D σ H => ∃ S G L, SRel K H σ S ∧ HRel K en H G ∧ ls L S G ∧ EndsOk K en H G L D

/-! ### judgements -/
def E (en : En) (X : Cx) (e : Expr) (l : LE) : Prop := PE X e (low X.K en l)
def Et (en : En) (X : Cx) (e : Expr) (l : LT) : Prop := PT X e (lowT X.K en l)
def Ew (en : En) (X : Cx) (e : Expr) (l : LT) : Prop := PW X e (lowT X.K en l)
def Ea (en : En) (X : Cx) (es : List Expr) (l : LA) : Prop := PA X es (lowA X.K en l)
def Es (en : En) (X : Cx) (s : Stmt) (l : LS) : Prop := PS X s (lowS X.K en l)
def Ess (en : En) (X : Cx) (s : List Stmt) (l : LS) : Prop := PSs X s (lowS X.K en l)
section
variable {X : Cx} {e : Expr} {es : List Expr} {s : Stmt} {ss : List Stmt}
theorem PE.weak {t t' : TE} (h : PE X e t) (w : ∀ σ H Q, t' σ H Q → t σ H Q) : PE X e t' := ⟨fun pins s σ H Q I q => h.run pins s σ H Q I (w σ H Q q)⟩
theorem PT.weak {t t' : TT} (h : PT X e t) (w : ∀ σ H Q, t' σ H Q → t σ H Q) : PT X e t' := ⟨fun pins s σ H Q I q => h.run pins s σ H Q I (w σ H Q q)⟩
theorem PW.weak {t t' : TT} (h : PW X e t) (w : ∀ σ H Q, t' σ H Q → t σ H Q) : PW X e t' := ⟨fun wh pins s σ H Q I q => h.run wh pins s σ H Q I (w σ H Q q)⟩
theorem PA.weak {t t' : TA} (h : PA X es t) (w : ∀ σ H Q, t' σ H Q → t σ H Q) : PA X es t' := ⟨fun pos pins s σ H Q I q => h.run pos pins s σ H Q I (w σ H Q q)⟩
theorem PS.weak {t t' : TS} (h : PS X s t) (w : ∀ D σ H, t' D σ H → t D σ H) : PS X s t' := ⟨fun pins s σ H D I q => h.run pins s σ H D I (w D σ H q)⟩
theorem PSs.weak {t t' : TS} (h : PSs X ss t) (w : ∀ D σ H, t' D σ H → t D σ H) : PSs X ss t' := ⟨fun pins s σ H D I q => h.run pins s σ H D I (w D σ H q)⟩
end
end Dv
namespace Dv
open PySem L2

/-! ### equality of deep values -/
mutual
def T.decEq : (a b : T) → Decidable (a = b)
  | .non, .non => .isTrue rfl
  | .bl a, .bl b => if h : a = b then .isTrue (h ▸ rfl) else .isFalse fun e => h (T.bl.inj e)
  | .int a, .int b => if h : a = b then .isTrue (h ▸ rfl) else .isFalse fun e => h (T.int.inj e)
  | .str a, .str b => if h : a = b then .isTrue (h ▸ rfl) else .isFalse fun e => h (T.str.inj e)
  | .tup a, .tup b => match T.decEqL a b with
    | .isTrue h => .isTrue (h ▸ rfl)
    | .isFalse h => .isFalse fun e => h (T.tup.inj e)
  | .ref a, .ref b => if h : a = b then .isTrue (h ▸ rfl) else .isFalse fun e => h (T.ref.inj e)
  | .ty a, .ty b => if h : a = b then .isTrue (h ▸ rfl) else .isFalse fun e => h (T.ty.inj e)
  | .ptup a, .ptup b => match T.decEqL a b with
    | .isTrue h => .isTrue (h ▸ rfl)
    | .isFalse h => .isFalse fun e => h (T.ptup.inj e)
  | .non, .ptup _ | .bl _, .ptup _ | .int _, .ptup _ | .str _, .ptup _ | .tup _, .ptup _ | .ref _, .ptup _ | .ty _, .ptup _ => .isFalse fun e => nomatch e
  | .ptup _, .non | .ptup _, .bl _ | .ptup _, .int _ | .ptup _, .str _ | .ptup _, .tup _ | .ptup _, .ref _ | .ptup _, .ty _ => .isFalse fun e => nomatch e
  | .non, .bl _ | .non, .int _ | .non, .str _ | .non, .tup _ | .non, .ref _ | .non, .ty _ => .isFalse fun e => nomatch e
  | .bl _, .non | .bl _, .int _ | .bl _, .str _ | .bl _, .tup _ | .bl _, .ref _ | .bl _, .ty _ => .isFalse fun e => nomatch e
  | .int _, .non | .int _, .bl _ | .int _, .str _ | .int _, .tup _ | .int _, .ref _ | .int _, .ty _ => .isFalse fun e => nomatch e
  | .str _, .non | .str _, .bl _ | .str _, .int _ | .str _, .tup _ | .str _, .ref _ | .str _, .ty _ => .isFalse fun e => nomatch e
  | .tup _, .non | .tup _, .bl _ | .tup _, .int _ | .tup _, .str _ | .tup _, .ref _ | .tup _, .ty _ => .isFalse fun e => nomatch e
  | .ref _, .non | .ref _, .bl _ | .ref _, .int _ | .ref _, .str _ | .ref _, .tup _ | .ref _, .ty _ => .isFalse fun e => nomatch e
  | .ty _, .non | .ty _, .bl _ | .ty _, .int _ | .ty _, .str _ | .ty _, .tup _ | .ty _, .ref _ => .isFalse fun e => nomatch e
def T.decEqL : (a b : List T) → Decidable (a = b)
  | [], [] => .isTrue rfl
  | a :: as, b :: bs => match T.decEq a b, T.decEqL as bs with
    | .isTrue h, .isTrue h' => .isTrue (h ▸ h' ▸ rfl)
    | .isFalse h, _ => .isFalse fun e => h (List.cons.inj e).1
    | _, .isFalse h => .isFalse fun e => h (List.cons.inj e).2
  | [], _ :: _ => .isFalse fun e => nomatch e
  | _ :: _, [] => .isFalse fun e => nomatch e
end
instance : DecidableEq T := T.decEq

/-! ### data read through lists -/
mutual
inductive Dat (G : Gp) : T → PyData → Prop
  | non : Dat G .non .none
  | bl (b : Bool) : Dat G (.bl b) (.bool b)
  | int (i : Int) : Dat G (.int i) (.int i)
  | str (x : Str) : Dat G (.str x) (.str x)
  | tup {ts : List T} {ds : List PyData} : DatL G ts ds → Dat G (.tup ts) (.tuple ds)
  | lst {a : Addr} {ts : List T} {ds : List PyData} : G a = some (.lst ts) → DatL G ts ds → Dat G (.ref a) (.list ds)
inductive DatL (G : Gp) : List T → List PyData → Prop
  | nil : DatL G [] []
  | cons {t : T} {d : PyData} {ts : List T} {ds : List PyData} : Dat G t d → DatL G ts ds → DatL G (t :: ts) (d :: ds)
end
mutual
theorem Dat.dp {K : Fr0} {H : Hp} {G : Gp} (g : HRel K en H G) : ∀ {d : PyData} {t : T} {v : V}, Dat G t d → Rel K H v t → Dp K H v d
  | .none, _, _, .non, .non => .non
  | .bool _, _, _, .bl _, .bl _ => .bl _
  | .int _, _, _, .int _, .int _ => .int _
  | .str _, _, _, .str _, .str _ => .str _
  | .tuple _, _, _, .tup h, .tup hs r => .tup hs (DatL.dp g h r)
  | .list ds, _, _, .lst hg h, r0 => by
    cases r0
    obtain ⟨vs, e, r⟩ := g.obj _ _ hg
    exact .lst (SqL.of e) (DatL.dp g h r)
theorem DatL.dp {K : Fr0} {H : Hp} {G : Gp} (g : HRel K en H G) : ∀ {ds : List PyData} {ts : List T} {vs : List V}, DatL G ts ds → RelL K H vs ts → DpAll K H vs ds
  | [], _, _, .nil, .nil => .nil
  | _ :: _, _, _, .cons h hs, .cons r rs => .cons (Dat.dp g h r) (DatL.dp g hs rs)
end

section
variable {X : Cx} {a b c : Expr} {es : List Expr} {la lb lc : LE} {pos : Pos}
/-! ### names, constants -/
def sl : S2 → Nat → Option T
  | [], _ => none
  | x :: _, 0 => x
  | _ :: r, i + 1 => sl r i
theorem sl_at : ∀ {S : S2} {i : Nat} {t : T}, sl S i = some t → S[i]? = some (some t)
  | [], _, _, h => by simp [sl] at h
  | x :: _, 0, t, h => by
    have h : x = some t := h
    subst h
    rfl
  | _ :: r, i + 1, t, h => by
    have h : sl r i = some t := h
    simpa using sl_at h
def lVar (i : Nat) : LE := fun S G Φ => match sl S i with
  | some t => Φ t G
  | none => False
def lC (t : T) : LE := fun _ G Φ => Φ t G
theorem e_var (i : Nat) {x : Str} {pos : Pos} (hN : X.N[i]? = some x := by rfl) (hv : Vis X.env.scope x := by first | exact Or.inl rfl | exact Or.inr (Or.inl rfl) | exact Or.inr (Or.inr rfl)) (hd : (x == ("__debug__" : Str)) = false := by decide)
    (hcd : (x == ("__classdict__" : Str)) = false := by decide) : E en X (.Name x pos) (lVar i) := by
  refine PE.weak (pe_var hN hv hd hcd) fun σ H Q ⟨S, G, Φ, s, g, q, k⟩ => ?_
  unfold lVar at q
  split at q
  · rename_i t e
    obtain ⟨v, h1, h2⟩ := s.at_ i t (sl_at e)
    exact ⟨v, h1, k t G v H q h2 g (Step.refl H G)⟩
  · exact q.elim
theorem e_const {v : V} {t : T} {e : Expr} (h : PE X e (tC v)) (r : ∀ H, Rel X.K H v t) : E en X e (lC t) :=
  PE.weak h fun σ H Q ⟨S, G, Φ, s, g, q, k⟩ => k t G v H q (r H) g (Step.refl H G)
theorem e_int {i : Int} {j : Nat} : E en X (.Constant (.int i) j pos) (lC (.int i)) := e_const pe_int fun _ => .int _
theorem e_bl {i : Bool} {j : Nat} : E en X (.Constant (.bool i) j pos) (lC (.bl i)) := e_const pe_bl fun _ => .bl _
theorem e_non {j : Nat} : E en X (.Constant .none j pos) (lC .non) := e_const pe_non fun _ => .non
theorem e_str {i : Str} {j : Nat} : E en X (.Constant (.str i) j pos) (lC (.str i)) := e_const pe_str fun _ => .str _

/-! ### arguments, displays -/
def lNil : LA := fun _ G Φ => Φ [] G
def lCons (la : LE) (lr : LA) : LA := fun S G Φ => la S G fun t G1 => lr S G1 fun ts G2 => Φ (t :: ts) G2
theorem ea_nil : Ea en X [] lNil := PA.weak pa_nil fun σ H Q ⟨S, G, Φ, s, g, q, k⟩ => k [] G [] H q .nil g (Step.refl H G)
theorem ea_cons {lr : LA} (h : E en X a la) (hr : Ea en X es lr) (hs : starEach (a :: es) X.env = (false, eval a X.env) :: starEach es X.env := by rfl) : Ea en X (a :: es) (lCons la lr) := by
  refine PA.weak (pa_cons h hr hs) fun σ H Q ⟨S, G, Φ, s, g, q, k⟩ => ?_
  refine ⟨S, G, _, s, g, q, fun t G1 v H1 q1 r1 g1 s1 => ?_⟩
  refine ⟨S, G1, _, s.stay (s1.stay g), g1, q1, fun ts G2 vs H2 q2 r2 g2 s2 => ?_⟩
  exact k (t :: ts) G2 (v :: vs) H2 q2 (.cons (r1.stay (s2.stay g1)) r2) g2 (s1.trans s2)
def lTup (l : LA) : LE := fun S G Φ => l S G fun ts G1 => ts.length ≤ sizeLine ∧ Φ (.tup ts) G1
def newL (ts : List T) : Gp → QT → Prop := fun G Φ => ts.length ≤ sizeLine ∧ ∀ p, G p = none → Φ (.ref p) (gup G p (.lst ts))
def lLst (l : LA) : LE := fun S G Φ => l S G fun ts G1 => newL ts G1 Φ
/-- a new tuple is laid: its value -/
theorem tup_laid {K : Fr0} {H : Hp} {G : Gp} {p : Addr} {vs : List V} {ts : List T} (g : HRel K en H G) (hp : H p = none) (r : RelL K H vs ts) : Rel K (L2.upd H p (.tup vs)) (.ref p) (.tup ts) ∧ HRel K en (L2.upd H p (.tup vs)) G ∧ Step H G (L2.upd H p (.tup vs)) G := by
  obtain ⟨g1, s1, st⟩ := g.laid (ho := .tup vs) hp
  exact ⟨.tup (SqT.of upd_same) (r.stay st), g1, s1⟩
theorem lst_laid {K : Fr0} {H : Hp} {G : Gp} {p : Addr} {vs : List V} {ts : List T} (g : HRel K en H G) (hp : H p = none) (r : RelL K H vs ts) : HRel K en (L2.upd H p (.lst vs)) (gup G p (.lst ts)) ∧ Step H G (L2.upd H p (.lst vs)) (gup G p (.lst ts)) := by
  have hp' : ∀ ho, Stay K H (L2.upd H p ho) := fun ho => (g.laid (ho := ho) hp).2.2
  obtain ⟨g1, s1, st⟩ := g.upd (a := p) (ho := .lst vs) (o := .lst ts) (.inl hp) (fun n z => by cases z) ⟨vs, upd_same, r.stay (hp' _)⟩
  exact ⟨g1, s1⟩
theorem e_tup {l : LA} {k : Nat} (h : Ea en X es l) : E en X (.Tuple es k pos) (lTup l) := by
  refine PE.weak (pe_tup h) fun σ H Q ⟨S, G, Φ, s, g, q, k⟩ => ?_
  refine ⟨S, G, _, s, g, q, fun ts G1 vs H1 q1 r1 g1 s1 => ⟨by rw [r1.length]; exact q1.1, fun p hp => ?_⟩⟩
  obtain ⟨r2, g2, s2⟩ := tup_laid g1 hp r1
  exact k _ _ _ _ q1.2 r2 g2 (s1.trans s2)
theorem e_lst {l : LA} (h : Ea en X es l) : E en X (.List es pos) (lLst l) := by
  refine PE.weak (pe_lst h) fun σ H Q ⟨S, G, Φ, s, g, q, k⟩ => ?_
  refine ⟨S, G, _, s, g, q, fun ts G1 vs H1 q1 r1 g1 s1 => ⟨by rw [r1.length]; exact q1.1, fun p hp => ?_⟩⟩
  obtain ⟨g2, s2⟩ := lst_laid g1 hp r1
  exact k _ _ _ _ (q1.2 p (g1.fresh hp)) (.ref p) g2 (s1.trans s2)

/-! ### operators -/
def lOp (r : R2T) (la lb : LE) : LE := fun S G Φ => la S G fun t G1 => lb S G1 fun u G2 => r t u G2 Φ
def lUn (r : R1T) (la : LE) : LE := fun S G Φ => la S G fun t G1 => r t G1 Φ
def lCB (r : RLT) (l : LA) : LE := fun S G Φ => l S G fun ts G1 => r ts G1 Φ
theorem OpR.weak {f : Value → Value → Sem Value} {r r' : R2} (h : OpR X f r) (w : ∀ x y H Q, r' x y H Q → r x y H Q) : OpR X f r' := fun pins s σ H x y v u Q I rx ry q => h pins s σ H x y v u Q I rx ry (w x y H Q q)
theorem OpR.or {f : Value → Value → Sem Value} {r r' : R2} (h : OpR X f r) (h' : OpR X f r') : OpR X f (fun x y H Q => r x y H Q ∨ r' x y H Q) := fun pins s σ H x y v u Q I rx ry q => q.elim (h pins s σ H x y v u Q I rx ry) (h' pins s σ H x y v u Q I rx ry)
theorem CallR.weak {f : Value} {r r' : List V → Hp → VK → Prop} (h : CallR X f r) (w : ∀ xs H Q, r' xs H Q → r xs H Q) : CallR X f r' := fun pins s σ H xs us Q I rx q => h pins s σ H xs us Q I rx (w xs H Q q)
theorem CallR.or {f : Value} {r r' : List V → Hp → VK → Prop} (h : CallR X f r) (h' : CallR X f r') : CallR X f (fun xs H Q => r xs H Q ∨ r' xs H Q) := fun pins s σ H xs us Q I rx q => q.elim (h pins s σ H xs us Q I rx) (h' pins s σ H xs us Q I rx)
theorem low2_run {K : Fr0} {r : R2T} {σ : L2.St} {H : Hp} {Q : VK} (h : low K en (lOp r la lb) σ H Q) : tOp (low2 K en r) (low K en la) (low K en lb) σ H Q := by
  obtain ⟨S, G, Φ, s, g, q, k⟩ := h
  refine ⟨S, G, _, s, g, q, fun t G1 v H1 q1 r1 g1 s1 => ?_⟩
  refine ⟨S, G1, _, s.stay (s1.stay g), g1, q1, fun u G2 w H2 q2 r2 g2 s2 => ?_⟩
  exact ⟨t, u, G2, Φ, r1.stay (s2.stay g1), r2, g2, q2, fun t' G' v' H' a b c d => k t' G' v' H' a b c ((s1.trans s2).trans d)⟩
theorem e_bin {op : Operator} {r : R2T} (ho : OpR X (binaryOp op) (low2 X.K en r)) (ha : E en X a la) (hb : E en X b lb) : E en X (.BinOp a op b pos) (lOp r la lb) :=
  PE.weak (pe_op ho ha hb) fun σ H Q h => low2_run h
theorem e_cmp {op : CmpOp} {r : R2T} (ho : OpR X (compareOp op) (low2 X.K en r)) (ha : E en X a la) (hb : E en X b lb) (hm : behindInMarks op b = false := by first | exact nomark _ | rfl) : E en X (.Compare a [op] [b] pos) (lOp r la lb) :=
  PE.weak (pe_cmpR ho ha hb hm) fun σ H Q h => low2_run h
/-- an expression that is a bool, as a test -/
def lB (l : LE) : LT := fun S G Φ => l S G fun t G1 => match t with
  | .bl b => Φ b G1
  | _ => False
theorem low_B {K : Fr0} {te : TE} {l : LE} (h : ∀ σ H Q, low K en l σ H Q → te σ H Q) : ∀ σ H Q, lowT K en (lB l) σ H Q → tTest te σ H Q := fun σ H Q ⟨S, G, Φ, s, g, q, k⟩ => by
  refine h σ H _ ⟨S, G, _, s, g, q, fun t G1 v H1 q1 r1 g1 s1 => ?_⟩
  cases r1 with
  | bl b => exact ⟨b, rfl, k b G1 H1 q1 g1 s1⟩
  | _ => exact q1.elim
theorem et_cmp {op : CmpOp} {r : R2T} (ho : OpR X (compareOp op) (low2 X.K en r)) (ha : E en X a la) (hb : E en X b lb) (hm : behindInMarks op b = false := by first | exact nomark _ | rfl) : Et en X (.Compare a [op] [b] pos) (lB (lOp r la lb)) :=
  PT.weak (pt_cmpR ho ha hb hm) (low_B fun σ H Q h => low2_run h)
theorem et_val (h : E en X a la) (he : ∀ whole, isTrue a X.env whole = (do let v ← whole; standAt a.pos; holding [v] (truthy v)) := by intro _; rfl) : Et en X a (lB la) :=
  PT.weak (pt_val h he) (low_B fun σ H Q h => h)
def lAnd (t u : LT) : LT := fun S G Φ => t S G fun c G1 => if c = true then u S G1 Φ else Φ false G1
def lOr (t u : LT) : LT := fun S G Φ => t S G fun c G1 => if c = true then Φ true G1 else u S G1 Φ
def lNot (t : LT) : LT := fun S G Φ => t S G fun c G1 => Φ (!c) G1
variable {tl ul : LT} {rest : List Expr}
theorem ew_and1 (h : Et en X a tl) : Ew en X (.BoolOp .And [a] pos) tl := pw_and1 h
theorem ew_or1 (h : Et en X a tl) : Ew en X (.BoolOp .Or [a] pos) tl := pw_or1 h
theorem ew_and (h : Et en X a tl) (hb : Ew en X (.BoolOp .And (b :: rest) pos) ul) : Ew en X (.BoolOp .And (a :: b :: rest) pos) (lAnd tl ul) := by
  refine PW.weak (pw_and h hb) fun σ H Q ⟨S, G, Φ, s, g, q, k⟩ => ?_
  refine ⟨S, G, _, s, g, q, fun c G1 H1 q1 g1 s1 => ?_⟩
  cases c with
  | true =>
    rw [if_pos rfl] at q1 ⊢
    exact ⟨S, G1, Φ, s.stay (s1.stay g), g1, q1, fun c G2 H2 q2 g2 s2 => k c G2 H2 q2 g2 (s1.trans s2)⟩
  | false =>
    rw [if_neg Bool.false_ne_true] at q1 ⊢
    exact k false G1 H1 q1 g1 s1
theorem ew_or (h : Et en X a tl) (hb : Ew en X (.BoolOp .Or (b :: rest) pos) ul) : Ew en X (.BoolOp .Or (a :: b :: rest) pos) (lOr tl ul) := by
  refine PW.weak (pw_or h hb) fun σ H Q ⟨S, G, Φ, s, g, q, k⟩ => ?_
  refine ⟨S, G, _, s, g, q, fun c G1 H1 q1 g1 s1 => ?_⟩
  cases c with
  | true =>
    rw [if_pos rfl] at q1 ⊢
    exact k true G1 H1 q1 g1 s1
  | false =>
    rw [if_neg Bool.false_ne_true] at q1 ⊢
    exact ⟨S, G1, Φ, s.stay (s1.stay g), g1, q1, fun c G2 H2 q2 g2 s2 => k c G2 H2 q2 g2 (s1.trans s2)⟩
theorem et_w (h : Ew en X a tl) : Et en X a tl := h.pt
theorem et_not (h : Et en X a tl) : Et en X (.UnaryOp .Not a pos) (lNot tl) :=
  PT.weak (pt_not h) fun σ H Q ⟨S, G, Φ, s, g, q, k⟩ => ⟨S, G, _, s, g, q, fun c G1 H1 q1 g1 s1 => k (!c) G1 H1 q1 g1 s1⟩
/-! .. as values -/
def lAndV (la lb : LE) : LE := fun S G Φ => la S G fun t G1 => match t with
  | .bl c => if c = true then lb S G1 Φ else Φ (.bl false) G1
  | _ => False
def lOrV (la lb : LE) : LE := fun S G Φ => la S G fun t G1 => match t with
  | .bl c => if c = true then Φ (.bl true) G1 else lb S G1 Φ
  | _ => False
def lNotV (la : LE) : LE := fun S G Φ => la S G fun t G1 => match t with
  | .bl c => Φ (.bl (!c)) G1
  | _ => False
theorem e_one {op : BoolOp} (h : E en X a la) : E en X (.BoolOp op [a] pos) la := pe_one h
theorem e_and (h : E en X a la) (hb : E en X (.BoolOp .And (b :: rest) pos) lb) : E en X (.BoolOp .And (a :: b :: rest) pos) (lAndV la lb) := by
  refine PE.weak (pe_and h hb) fun σ H Q ⟨S, G, Φ, s, g, q, k⟩ => ?_
  refine ⟨S, G, _, s, g, q, fun t G1 v H1 q1 r1 g1 s1 => ?_⟩
  cases r1 with
  | bl c =>
    refine ⟨c, rfl, ?_⟩
    cases c with
    | true => exact ⟨S, G1, Φ, s.stay (s1.stay g), g1, q1, fun t G2 v H2 q2 r2 g2 s2 => k t G2 v H2 q2 r2 g2 (s1.trans s2)⟩
    | false => exact k (.bl false) G1 (.bl false) H1 q1 (.bl _) g1 s1
  | _ => exact q1.elim
theorem e_or (h : E en X a la) (hb : E en X (.BoolOp .Or (b :: rest) pos) lb) : E en X (.BoolOp .Or (a :: b :: rest) pos) (lOrV la lb) := by
  refine PE.weak (pe_or h hb) fun σ H Q ⟨S, G, Φ, s, g, q, k⟩ => ?_
  refine ⟨S, G, _, s, g, q, fun t G1 v H1 q1 r1 g1 s1 => ?_⟩
  cases r1 with
  | bl c =>
    refine ⟨c, rfl, ?_⟩
    cases c with
    | false => exact ⟨S, G1, Φ, s.stay (s1.stay g), g1, q1, fun t G2 v H2 q2 r2 g2 s2 => k t G2 v H2 q2 r2 g2 (s1.trans s2)⟩
    | true => exact k (.bl true) G1 (.bl true) H1 q1 (.bl _) g1 s1
  | _ => exact q1.elim
theorem e_not (h : E en X a la) : E en X (.UnaryOp .Not a pos) (lNotV la) := by
  refine PE.weak (pe_not h) fun σ H Q ⟨S, G, Φ, s, g, q, k⟩ => ?_
  refine ⟨S, G, _, s, g, q, fun t G1 v H1 q1 r1 g1 s1 => ?_⟩
  cases r1 with
  | bl c => exact ⟨c, rfl, k _ _ _ _ q1 (.bl _) g1 s1⟩
  | _ => exact q1.elim
def lIf (t : LT) (la lb : LE) : LE := fun S G Φ => t S G fun c G1 => if c = true then la S G1 Φ else lb S G1 Φ
theorem e_if (h : Et en X c tl) (ha : E en X a la) (hb : E en X b lb) : E en X (.IfExp c a b pos) (lIf tl la lb) := by
  refine PE.weak (pe_ifExp h ha hb) fun σ H Q ⟨S, G, Φ, s, g, q, k⟩ => ?_
  refine ⟨S, G, _, s, g, q, fun d G1 H1 q1 g1 s1 => ?_⟩
  cases d with
  | true =>
    rw [if_pos rfl] at q1 ⊢
    exact ⟨S, G1, Φ, s.stay (s1.stay g), g1, q1, fun t G2 v H2 q2 r2 g2 s2 => k t G2 v H2 q2 r2 g2 (s1.trans s2)⟩
  | false =>
    rw [if_neg Bool.false_ne_true] at q1 ⊢
    exact ⟨S, G1, Φ, s.stay (s1.stay g), g1, q1, fun t G2 v H2 q2 r2 g2 s2 => k t G2 v H2 q2 r2 g2 (s1.trans s2)⟩
/-! chains a < b < c -/
def lChain (r r' : R2T) (la lb lc : LE) : LE := fun S G Φ => la S G fun t G1 => lb S G1 fun u G2 => r t u G2 fun z G3 => match z with
  | .bl true => lc S G3 fun w G4 => r' u w G4 Φ
  | .bl false => Φ (.bl false) G3
  | _ => False
theorem low_chain {K : Fr0} {r r' : R2T} : ∀ σ H Q, low K en (lChain r r' la lb lc) σ H Q → tChain (low2 K en r) (low2 K en r') (low K en la) (low K en lb) (low K en lc) σ H Q := by
  intro σ H Q ⟨S, G, Φ, s, g, q, k⟩
  refine ⟨S, G, _, s, g, q, fun t G1 v H1 q1 r1 g1 s1 => ?_⟩
  refine ⟨S, G1, _, s.stay (s1.stay g), g1, q1, fun u G2 w H2 q2 r2 g2 s2 => ?_⟩
  refine ⟨t, u, G2, _, r1.stay (s2.stay g1), r2, g2, q2, fun z G3 x H3 q3 r3 g3 s3 => ?_⟩
  cases r3 with
  | bl d =>
    refine ⟨d, rfl, ?_⟩
    cases d with
    | true =>
      have s12 := (s1.trans s2).trans s3
      refine ⟨S, G3, _, s.stay (s12.stay g), g3, q3, fun w' G4 y H4 q4 r4 g4 s4 => ?_⟩
      exact ⟨u, w', G4, Φ, (r2.stay (s3.stay g2)).stay (s4.stay g3), r4, g4, q4, fun t' G' v' H' a b c d => k t' G' v' H' a b c ((s12.trans s4).trans d)⟩
    | false => exact k _ _ _ _ q3 (.bl false) g3 ((s1.trans s2).trans s3)
  | _ => exact q3.elim
theorem e_chain {op op' : CmpOp} {r r' : R2T} (ho : OpR X (compareOp op) (low2 X.K en r)) (ho' : OpR X (compareOp op') (low2 X.K en r')) (ha : E en X a la) (hb : E en X b lb) (hc : E en X c lc)
    (hm : lastMarks [op, op'] [b, c] = false := by with_unfolding_all rfl) : E en X (.Compare a [op, op'] [b, c] pos) (lChain r r' la lb lc) := PE.weak (pe_chain ho ho' ha hb hc hm) low_chain
theorem et_chain {op op' : CmpOp} {r r' : R2T} (ho : OpR X (compareOp op) (low2 X.K en r)) (ho' : OpR X (compareOp op') (low2 X.K en r')) (ha : E en X a la) (hb : E en X b lb) (hc : E en X c lc)
    (hm : lastMarks [op, op'] [b, c] = false := by with_unfolding_all rfl) : Et en X (.Compare a [op, op'] [b, c] pos) (lB (lChain r r' la lb lc)) := PT.weak (pt_chain ho ho' ha hb hc hm) (low_B low_chain)
end
end Dv
namespace Dv
open PySem L2
section
variable {X : Cx}

/-! ### arithmetic -/
def addT : R2T
  | .int i, .int j, G, Φ => Φ (.int (i + j)) G
  | .str a, .str b, G, Φ => a.length + b.length ≤ sizeLine ∧ Φ (.str (a ++ b)) G
  | .tup xs, .tup ys, G, Φ => xs.length + ys.length ≤ sizeLine ∧ Φ (.tup (xs ++ ys)) G
  | .ref a, .ref b, G, Φ => match G a, G b with
    | some (.lst xs), some (.lst ys) => newL (xs ++ ys) G Φ
    | _, _ => False
  | _, _, _, _ => False
theorem o_add : OpR X (binaryOp .Add) (low2 X.K en addT) := by
  refine OpR.weak (OpR.or op_add (OpR.or op_add_str (OpR.or op_catA op_cat))) fun x y H Q ⟨t, u, G, Φ, rt, ru, g, q, k⟩ => ?_
  cases rt with
  | int i =>
    cases ru with
    | int j => exact .inl ⟨i, j, rfl, rfl, k _ _ _ _ q (.int _) g (Step.refl H G)⟩
    | _ => exact q.elim
  | str a =>
    cases ru with
    | str b => exact .inr (.inl ⟨a, b, rfl, rfl, q.1, k _ _ _ _ q.2 (.str _) g (Step.refl H G)⟩)
    | _ => exact q.elim
  | tup hs rs =>
    cases ru with
    | tup hs2 rs2 =>
      refine .inr (.inr (.inl ⟨_, _, _, _, rfl, rfl, hs, hs2, by rw [rs.length, rs2.length]; exact q.1, fun e => ?_, fun _ e => ?_, fun _ _ p hp => ?_⟩))
      · subst e
        cases rs
        exact k _ _ _ _ q.2 (.tup hs2 rs2) g (Step.refl H G)
      · subst e
        cases rs2
        refine k _ _ _ _ q.2 (.tup hs ?_) g (Step.refl H G)
        rw [List.append_nil]
        exact rs
      · obtain ⟨r2, g2, s2⟩ := tup_laid g hp (rs.app rs2)
        exact k _ _ _ _ q.2 r2 g2 s2
    | _ => exact q.elim
  | ref a =>
    cases ru with
    | ref b =>
      have q : (match G a, G b with | some (.lst xs), some (.lst ys) => newL (xs ++ ys) G Φ | _, _ => False) := q
      split at q
      · rename_i xs ys e1 e2
        obtain ⟨vs, h1, r1⟩ := g.obj _ _ e1
        obtain ⟨ws, h2, r2⟩ := g.obj _ _ e2
        refine .inr (.inr (.inr ⟨_, _, vs, ws, rfl, rfl, h1, h2, ?_, fun p hp => ?_⟩))
        · rw [r1.length, r2.length, ← List.length_append]; exact q.1
        · obtain ⟨g2, s2⟩ := lst_laid g hp (r1.app r2)
          exact k _ _ _ _ (q.2 p (g.fresh hp)) (.ref p) g2 s2
      · exact q.elim
    | _ => exact q.elim
  | _ => exact q.elim
/-- two ints -/
def intT (C : Int → Int → Prop) (f : Int → Int → T) : R2T
  | .int i, .int j, G, Φ => C i j ∧ Φ (f i j) G
  | _, _, _, _ => False
theorem o_int {f : Value → Value → Sem Value} {C : Int → Int → Prop} {h : Int → Int → Int} (r : OpR X f (rI C fun i j => .int (h i j))) : OpR X f (low2 X.K en (intT C fun i j => .int (h i j))) := by
  refine OpR.weak r fun x y H Q ⟨t, u, G, Φ, rt, ru, g, q, k⟩ => ?_
  cases rt with
  | int i =>
    cases ru with
    | int j => exact ⟨i, j, rfl, rfl, q.1, k _ _ _ _ q.2 (.int _) g (Step.refl H G)⟩
    | _ => exact q.elim
  | _ => exact q.elim
theorem o_int0 {f : Value → Value → Sem Value} {h : Int → Int → Int} (r : OpR X f (rI0 fun i j => .int (h i j))) : OpR X f (low2 X.K en (intT (fun _ _ => True) fun i j => .int (h i j))) := by
  refine OpR.weak r fun x y H Q ⟨t, u, G, Φ, rt, ru, g, q, k⟩ => ?_
  cases rt with
  | int i =>
    cases ru with
    | int j => exact ⟨i, j, rfl, rfl, k _ _ _ _ q.2 (.int _) g (Step.refl H G)⟩
    | _ => exact q.elim
  | _ => exact q.elim
theorem o_sub : OpR X (binaryOp .Sub) (low2 X.K en (intT (fun _ _ => True) fun i j => .int (i - j))) := o_int0 op_sub
theorem o_mod : OpR X (binaryOp .Mod) (low2 X.K en (intT (fun _ j => 0 < j) fun i j => .int (i % j))) := o_int op_mod
theorem o_fdiv : OpR X (binaryOp .FloorDiv) (low2 X.K en (intT CDiv fun i j => .int (i / j))) := o_int op_fdiv
theorem o_pow : OpR X (binaryOp .Pow) (low2 X.K en (intT CPow fun i j => .int (i ^ j.toNat))) := o_int op_pow
def mulT : R2T
  | .int i, .int j, G, Φ => CMul i j ∧ Φ (.int (i * j)) G
  | .ref a, .int k, G, Φ => match G a with
    | some (.lst xs) => 0 ≤ k ∧ k ≤ 1000 ∧ newL (List.replicate k.toNat xs).flatten G Φ
    | _ => False
  | _, _, _, _ => False
theorem RelL.rep {K : Fr0} {H : Hp} {vs : List V} {ts : List T} (r : RelL K H vs ts) : ∀ n, RelL K H (List.replicate n vs).flatten (List.replicate n ts).flatten
  | 0 => .nil
  | n + 1 => by
    rw [List.replicate_succ, List.replicate_succ, List.flatten_cons, List.flatten_cons]
    exact r.app (RelL.rep r n)
theorem o_mul : OpR X (binaryOp .Mult) (low2 X.K en mulT) := by
  refine OpR.weak (OpR.or op_mul op_rep) fun x y H Q ⟨t, u, G, Φ, rt, ru, g, q, k⟩ => ?_
  cases rt with
  | int i =>
    cases ru with
    | int j => exact .inl ⟨i, j, rfl, rfl, q.1, k _ _ _ _ q.2 (.int _) g (Step.refl H G)⟩
    | _ => exact q.elim
  | ref a =>
    cases ru with
    | int n =>
      have q : (match G a with | some (.lst xs) => 0 ≤ n ∧ n ≤ 1000 ∧ newL (List.replicate n.toNat xs).flatten G Φ | _ => False) := q
      split at q
      · rename_i xs e1
        obtain ⟨vs, h1, r1⟩ := g.obj _ _ e1
        obtain ⟨q0, q1, q2⟩ := q
        have hl : vs.length * n.toNat ≤ sizeLine := by
          have := q2.1
          rw [List.length_flatten, List.map_replicate, List.sum_replicate_nat] at this
          rw [r1.length, Nat.mul_comm]
          exact this
        refine .inr ⟨a, n, vs, rfl, rfl, h1, by omega, by omega, hl, fun p hp => ?_⟩
        obtain ⟨g2, s2⟩ := lst_laid g hp (r1.rep n.toNat)
        exact k _ _ _ _ (q2.2 p (g.fresh hp)) (.ref p) g2 s2
      · exact q.elim
    | _ => exact q.elim
  | _ => exact q.elim

/-! ### comparisons -/
def scalT : T → T → Bool
  | .non, .non => true | .non, .int _ => true | .int _, .non => true | .non, .bl _ => true | .bl _, .non => true | .non, .str _ => true | .str _, .non => true
  | .int _, .int _ => true | .bl _, .bl _ => true | .str _, .str _ => true
  | .int _, .str _ => true | .str _, .int _ => true | .bl _, .str _ => true | .str _, .bl _ => true
  | _, _ => false
theorem scal_of {K : Fr0} {H : Hp} {x y : V} {t u : T} (rt : Rel K H x t) (ru : Rel K H y u) (h : scalT t u = true) : scal x y = true ∧ decide (x = y) = decide (t = u) := by
  cases rt <;> cases ru <;> first | exact absurd h Bool.false_ne_true | (refine ⟨rfl, ?_⟩; simp)
/-- ==, by data -/
def eqD (neg : Bool) (t u : T) (G : Gp) (Φ : QT) : Prop := ∃ d e, Dat G t d ∧ Dat G u e ∧ SeqAt.shaped d = true ∧ SeqAt.shaped e = true ∧ Φ (.bl (if neg then !PyData.eqv d e else PyData.eqv d e)) G
def eqT : R2T := fun t u G Φ => if scalT t u = true then Φ (.bl (decide (t = u))) G else eqD false t u G Φ
def neT : R2T := fun t u G Φ => if scalT t u = true then Φ (.bl (!decide (t = u))) G else eqD true t u G Φ
theorem o_eq (hu : X.A.units + 64 < cLine) : OpR X (compareOp .Eq) (low2 X.K en eqT) := by
  refine OpR.weak (OpR.or op_eq (op_eqD hu)) fun x y H Q ⟨t, u, G, Φ, rt, ru, g, q, k⟩ => ?_
  unfold eqT at q
  split at q
  · rename_i h
    obtain ⟨h1, h2⟩ := scal_of rt ru h
    exact .inl ⟨h1, by rw [h2]; exact k _ _ _ _ q (.bl _) g (Step.refl H G)⟩
  · obtain ⟨d, e, h1, h2, h3, h4, q⟩ := q
    exact .inr ⟨d, e, h1.dp g rt, h2.dp g ru, h3, h4, k _ _ _ _ q (.bl _) g (Step.refl H G)⟩
theorem o_ne (hu : X.A.units + 64 < cLine) : OpR X (compareOp .NotEq) (low2 X.K en neT) := by
  refine OpR.weak (OpR.or op_ne (op_neD hu)) fun x y H Q ⟨t, u, G, Φ, rt, ru, g, q, k⟩ => ?_
  unfold neT at q
  split at q
  · rename_i h
    obtain ⟨h1, h2⟩ := scal_of rt ru h
    exact .inl ⟨h1, by rw [h2]; exact k _ _ _ _ q (.bl _) g (Step.refl H G)⟩
  · obtain ⟨d, e, h1, h2, h3, h4, q⟩ := q
    exact .inr ⟨d, e, h1.dp g rt, h2.dp g ru, h3, h4, k _ _ _ _ q (.bl _) g (Step.refl H G)⟩
/-- an order of ints and texts -/
def ordT (f : Int → Int → Bool) (h : Str → Str → Bool) : R2T
  | .int i, .int j, G, Φ => Φ (.bl (f i j)) G
  | .str a, .str b, G, Φ => Φ (.bl (h a b)) G
  | _, _, _, _ => False
theorem o_ord {f : Value → Value → Sem Value} {c : Int → Int → Bool} {h : Str → Str → Bool} (r : OpR X f (rI0 fun i j => .bl (c i j))) (r2 : OpR X f (fun x y H Q => ∃ i j, x = .str i ∧ y = .str j ∧ Q (.bl (h i j)) H)) : OpR X f (low2 X.K en (ordT c h)) := by
  refine OpR.weak (OpR.or r r2) fun x y H Q ⟨t, u, G, Φ, rt, ru, g, q, k⟩ => ?_
  cases rt with
  | int i =>
    cases ru with
    | int j => exact .inl ⟨i, j, rfl, rfl, k _ _ _ _ q (.bl _) g (Step.refl H G)⟩
    | _ => exact q.elim
  | str i =>
    cases ru with
    | str j => exact .inr ⟨i, j, rfl, rfl, k _ _ _ _ q (.bl _) g (Step.refl H G)⟩
    | _ => exact q.elim
  | _ => exact q.elim
def sLt (a b : Str) : Bool := decide (a.cps.toList < b.cps.toList)
theorem o_lt : OpR X (compareOp .Lt) (low2 X.K en (ordT (fun i j => decide (i < j)) fun a b => sLt a b)) := o_ord op_lt op_lt_str
theorem o_le : OpR X (compareOp .LtE) (low2 X.K en (ordT (fun i j => decide (i ≤ j)) fun a b => !sLt b a)) := o_ord op_le op_le_str
theorem o_gt : OpR X (compareOp .Gt) (low2 X.K en (ordT (fun i j => decide (j < i)) fun a b => sLt b a)) := o_ord op_gt op_gt_str
theorem o_ge : OpR X (compareOp .GtE) (low2 X.K en (ordT (fun i j => decide (j ≤ i)) fun a b => !sLt a b)) := o_ord op_ge op_ge_str
/-- is None, is True -/
def isT (neg : Bool) : R2T
  | t, .non, G, Φ => Φ (.bl (if neg then !decide (t = .non) else decide (t = .non))) G
  | .bl a, .bl b, G, Φ => Φ (.bl (if neg then !decide (a = b) else decide (a = b))) G
  | _, _, _, _ => False
theorem non_of {K : Fr0} {H : Hp} {x : V} {t : T} (r : Rel K H x t) : decide (x = .non) = decide (t = .non) := by
  cases r <;> simp
theorem o_is : OpR X (compareOp .Is) (low2 X.K en (isT false)) := by
  refine OpR.weak (OpR.or op_isN op_isBl) fun x y H Q ⟨t, u, G, Φ, rt, ru, g, q, k⟩ => ?_
  cases ru with
  | non =>
    have q : Φ (.bl (decide (t = .non))) G := by unfold isT at q; exact q
    exact .inl ⟨rfl, by rw [non_of rt]; exact k _ _ _ _ q (.bl _) g (Step.refl H G)⟩
  | bl b =>
    cases rt with
    | bl a => exact .inr ⟨a, b, rfl, rfl, k _ _ _ _ q (.bl _) g (Step.refl H G)⟩
    | _ => exact q.elim
  | _ => cases rt <;> exact q.elim
theorem o_isnot : OpR X (compareOp .IsNot) (low2 X.K en (isT true)) := by
  refine OpR.weak (OpR.or op_notN op_notBl) fun x y H Q ⟨t, u, G, Φ, rt, ru, g, q, k⟩ => ?_
  cases ru with
  | non =>
    have q : Φ (.bl (!decide (t = .non))) G := by unfold isT at q; exact q
    exact .inl ⟨rfl, by rw [non_of rt]; exact k _ _ _ _ q (.bl _) g (Step.refl H G)⟩
  | bl b =>
    cases rt with
    | bl a => exact .inr ⟨a, b, rfl, rfl, k _ _ _ _ q (.bl _) g (Step.refl H G)⟩
    | _ => exact q.elim
  | _ => cases rt <;> exact q.elim

/-! ### dicts by keys -/
def dlook : List (T × T) → T → Option T
  | [], _ => none
  | (k, v) :: r, t => if k = t then some v else dlook r t
def keyT : T → Option Key
  | .int i => some (.inl i)
  | .str s => some (.inr s)
  | _ => none
theorem keyT_kT {t : T} {k : Key} (h : keyT t = some k) : t = kT k := by
  cases t <;> simp only [keyT, reduceCtorEq, Option.some.injEq] at h <;> subst h <;> rfl
theorem kT_inj {a b : Key} (h : kT a = kT b) : a = b := by
  cases a <;> cases b <;> simp only [kT, T.int.injEq, T.str.injEq, reduceCtorEq] at h <;> rw [h]
theorem Rel.key {K : Fr0} {H : Hp} {v : V} {k : Key} (h : Rel K H v (kT k)) : v = kV k := by
  cases k <;> cases h <;> rfl
theorem RelD.look {K : Fr0} {H : Hp} {k : Key} : ∀ {vs : List (Key × V)} {ts : List (T × T)}, RelD K H vs ts →
    (dlook ts (kT k) = none ∧ valV vs k = none) ∨ ∃ t v, dlook ts (kT k) = some t ∧ valV vs k = some v ∧ Rel K H v t
  | _, _, .nil => .inl ⟨rfl, rfl⟩
  | _, _, .cons (k := j) (v := v) (t := t) (kvs := r) (ts := u) h rs => by
    by_cases e : j = k
    · subst e
      refine .inr ⟨t, v, ?_, ?_, h⟩
      · simp [dlook]
      · simp [valV]
    · have e' : ¬ kT j = kT k := fun z => e (kT_inj z)
      rcases RelD.look (k := k) rs with ⟨h1, h2⟩ | ⟨t', v', h1, h2, h3⟩
      · refine .inl ⟨?_, ?_⟩
        · simp [dlook, e', h1]
        · simpa [valV, e] using h2
      · refine .inr ⟨t', v', ?_, ?_, h3⟩
        · simp [dlook, e', h1]
        · simpa [valV, e] using h2
end
end Dv
namespace Dv
open PySem L2
section
variable {X : Cx} {a b e o : Expr} {es : List Expr} {la lb : LE} {l : LA} {pos p2 apos cpos : Pos}

/-! ### subscripts -/
theorem atI_rel {K : Fr0} {H : Hp} {vs : List V} {ts : List T} {i : Int} {t : T} (r : RelL K H vs ts) (h : atI ts i = some t) : ∃ v, atI vs i = some v ∧ Rel K H v t := by
  unfold atI at h ⊢
  rw [r.length]
  cases q : ixN ts.length i with
  | none => rw [q] at h; cases h
  | some j =>
    rw [q] at h
    exact r.get h
def ixT : R2T
  | .tup xs, .int i, G, Φ => match atI xs i with
    | some t => Φ t G
    | none => False
  | .str z, .int i, G, Φ => z.length ≤ sizeLine ∧ match atI z.cps.toList i with
    | some c => Φ (.str ⟨#[c]⟩) G
    | none => False
  | .ref a, u, G, Φ => match G a with
    | some (.lst xs) => (match u with
      | .int i => (match atI xs i with
        | some t => Φ t G
        | none => False)
      | _ => False)
    | some (.dic kvs) => (match keyT u, dlook kvs u with
      | some _, some t => Φ t G
      | _, _ => False)
    | some (.fdic _ _ kvs) => (match keyT u, dlook kvs u with
      | some _, some t => Φ t G
      | _, _ => False)
    | _ => False
  | _, _, _, _ => False
def rIxDk : R2 := fun x y H Q => ∃ p k v kvs, x = .ref p ∧ y = kV k ∧ Rd H p (.dK kvs) ∧ valV kvs k = some v ∧ Q v H
theorem ix_dk (hu : X.A.units + 1 < cLine) : IxR X rIxDk := by
  intro value slice pins s σ H x y v u Q I rx ry h hs
  obtain ⟨p, k, w0, kvs, rfl, rfl, hp, hv, q⟩ := h
  obtain rfl : v = Value.ref p := rx
  have g : DGet H p (kV k) (some w0) := .inl ⟨kvs, k, hp, rfl, hv.symm⟩
  exact PyProof.Rows.tail_any (dict_typeIs I g) PySem.F.slot_dict_getitem.lookup (d_getItem hu I g ry fun w' s' I' r' => ⟨w0, H, I', r', q⟩) hs
theorem IxR.weak {r r' : R2} (h : IxR X r) (w : ∀ x y H Q, r' x y H Q → r x y H Q) : IxR X r' := fun value slice pins s σ H x y v u Q I rx ry q hs => h value slice pins s σ H x y v u Q I rx ry (w x y H Q q) hs
theorem ix_all (hu : X.A.units + 1 < cLine) : IxR X (low2 X.K en ixT) := by
  refine IxR.weak (ix_seq.or (ix_dk hu)) fun x y H Q ⟨t, u, G, Φ, rt, ru, g, q, k⟩ => ?_
  cases rt with
  | tup hs rs =>
    cases ru with
    | int i =>
      simp only [ixT] at q
      split at q
      · rename_i t e
        obtain ⟨v, h1, h2⟩ := atI_rel rs e
        exact .inl (.inr (.inl ⟨_, _, i, v, rfl, rfl, hs, h1, k _ _ _ _ q h2 g (Step.refl H G)⟩))
      · exact q.elim
    | _ => exact q.elim
  | str z =>
    cases ru with
    | int i =>
      simp only [ixT] at q
      obtain ⟨hz, q⟩ := q
      split at q
      · rename_i c e
        exact .inl (.inr (.inr ⟨z, i, c, rfl, rfl, hz, e, k _ _ _ _ q (.str _) g (Step.refl H G)⟩))
      · exact q.elim
    | _ => exact q.elim
  | ref p =>
    simp only [ixT] at q
    split at q
    · rename_i xs e
      cases ru with
      | int i =>
        simp only at q
        split at q
        · rename_i t e2
          obtain ⟨vs, h1, r1⟩ := g.obj _ _ e
          obtain ⟨v, h2, h3⟩ := atI_rel r1 e2
          exact .inl (.inl ⟨_, _, i, v, rfl, rfl, SqL.of h1, h2, k _ _ _ _ q h3 g (Step.refl H G)⟩)
        · exact q.elim
      | _ => exact q.elim
    · rename_i kvs e
      split at q
      · rename_i k0 t e1 e2
        obtain ⟨vs, h1, r1⟩ := g.obj _ _ e
        have eu := keyT_kT e1
        subst eu
        rcases r1.look (k := k0) with ⟨h2, _⟩ | ⟨t', v, h2, h3, h4⟩
        · rw [h2] at e2; cases e2
        · rw [h2] at e2; cases e2
          exact .inr ⟨p, k0, v, vs, rfl, ru.key, .inl h1, h3, k _ _ _ _ q h4 g (Step.refl H G)⟩
      · exact q.elim
    · rename_i ob vs kvs e
      split at q
      · rename_i k0 t e1 e2
        obtain ⟨h1, r1⟩ := g.obj _ _ e
        have eu := keyT_kT e1
        subst eu
        rcases r1.look (k := k0) with ⟨h2, _⟩ | ⟨t', v, h2, h3, h4⟩
        · rw [h2] at e2; cases e2
        · rw [h2] at e2; cases e2
          exact .inr ⟨p, k0, v, vs, rfl, ru.key, .inr ⟨ob, h1⟩, h3, k _ _ _ _ q h4 g (Step.refl H G)⟩
      · exact q.elim
    · exact q.elim
  | _ => cases ru <;> exact q.elim
theorem e_ix (hu : X.A.units + 1 < cLine) (ha : E en X a la) (hb : E en X b lb) (hs : PlainIx b) : E en X (.Subscript a b pos) (lOp ixT la lb) :=
  PE.weak (pe_ix (ix_all hu) ha hb hs) fun σ H Q h => low2_run h

/-! ### slices -/
def cut {α : Type} (xs : List α) (lo hi : Option Int) : List α := (xs.drop (HT.sIx xs.length 0 lo)).take (HT.sIx xs.length xs.length hi - HT.sIx xs.length 0 lo)
theorem cut_rel {K : Fr0} {H : Hp} {vs : List V} {ts : List T} (r : RelL K H vs ts) (lo hi : Option Int) : RelL K H (cutV vs lo hi) (cut ts lo hi) := by
  unfold cutV cut
  rw [r.length]
  exact (r.drop _).take _
theorem cut_length {α : Type} (xs : List α) (lo hi : Option Int) : (cut xs lo hi).length ≤ xs.length := by
  unfold cut
  rw [List.length_take, List.length_drop]
  omega
abbrev LO := S2 → Gp → (Option Int → Gp → Prop) → Prop
def lowO (K : Fr0) (en : En) (lo : LO) : TO := fun σ H Q => ∃ S G Φ, SRel K H σ S ∧ HRel K en H G ∧ lo S G Φ ∧ ∀ i G' H', Φ i G' → HRel K en H' G' → Step H G H' G' → Q i H'
def Eo (en : En) (X : Cx) (e : Option Expr) (l : LO) : Prop := PO X e (lowO X.K en l)
def lNo : LO := fun _ G Φ => Φ none G
def lSome (la : LE) : LO := fun S G Φ => la S G fun t G1 => match t with
  | .int i => Φ (some i) G1
  | _ => False
theorem PO.weak {oe : Option Expr} {t t' : TO} (h : PO X oe t) (w : ∀ σ H Q, t' σ H Q → t σ H Q) : PO X oe t' := ⟨fun pins s σ H Q I q => h.run pins s σ H Q I (w σ H Q q)⟩
theorem eo_none : Eo en X none lNo := PO.weak po_none fun σ H Q ⟨S, G, Φ, s, g, q, k⟩ => k none G H q g (Step.refl H G)
theorem eo_some (ha : E en X a la) : Eo en X (some a) (lSome la) := PO.weak (po_some ha) fun σ H Q ⟨S, G, Φ, s, g, q, k⟩ => by
  refine ⟨S, G, _, s, g, q, fun t G1 v H1 q1 r1 g1 s1 => ?_⟩
  cases r1 with
  | int i => exact ⟨i, rfl, k (some i) G1 H1 q1 g1 s1⟩
  | _ => exact q1.elim
abbrev RST := T → Option Int → Option Int → Gp → QT → Prop
def slT : RST
  | .tup xs, lo, hi, G, Φ => Φ (.tup (cut xs lo hi)) G
  | .str z, lo, hi, G, Φ => z.length ≤ sizeLine ∧ Φ (.str (cutS z lo hi)) G
  | .ref a, lo, hi, G, Φ => match G a with
    | some (.lst xs) => ∀ p, G p = none → Φ (.ref p) (gup G p (.lst (cut xs lo hi)))
    | _ => False
  | _, _, _, _, _ => False
def lSl (la : LE) (lo hi : LO) : LE := fun S G Φ => la S G fun t G1 => lo S G1 fun i G2 => hi S G2 fun j G3 => slT t i j G3 Φ
theorem cut_whole {α : Type} {xs : List α} {lo hi : Option Int} (h : HT.sIx xs.length 0 lo = 0 ∧ HT.sIx xs.length xs.length hi = xs.length) : cut xs lo hi = xs := by
  unfold cut
  rw [h.1, h.2]
  simp
theorem e_slice {lo hi : Option Expr} {llo lhi : LO} (ha : E en X a la) (hl : Eo en X lo llo) (hh : Eo en X hi lhi) : E en X (.Subscript a (.Slice lo hi none p2) pos) (lSl la llo lhi) := by
  refine PE.weak (pe_slice (SlR.or sl_list (SlR.or sl_tupA sl_str)) ha hl hh) fun σ H Q ⟨S, G, Φ, s, g, q, k⟩ => ?_
  refine ⟨S, G, _, s, g, q, fun t G1 v H1 q1 r1 g1 s1 => ?_⟩
  refine ⟨S, G1, _, s.stay (s1.stay g), g1, q1, fun i G2 H2 q2 g2 s2 => ?_⟩
  refine ⟨S, G2, _, s.stay ((s1.trans s2).stay g), g2, q2, fun j G3 H3 q3 g3 s3 => ?_⟩
  have r3 := r1.stay ((s2.trans s3).stay g1)
  have s13 := (s1.trans s2).trans s3
  cases r3 with
  | tup hs rs =>
    refine .inr (.inl ⟨_, _, rfl, hs, fun hw => ?_, fun _ p hp => ?_⟩)
    · have e := cut_whole (xs := _) (lo := i) (hi := j) (by rw [← rs.length]; exact hw)
      have q3 : Φ (.tup (cut _ i j)) G3 := q3
      rw [e] at q3
      exact k _ _ _ _ q3 (.tup hs rs) g3 s13
    · obtain ⟨r4, g4, s4⟩ := tup_laid g3 hp (cut_rel rs i j)
      exact k _ _ _ _ q3 r4 g4 (s13.trans s4)
  | str z => exact .inr (.inr ⟨z, rfl, q3.1, k _ _ _ _ q3.2 (.str _) g3 s13⟩)
  | ref p =>
    simp only [slT] at q3
    split at q3
    · rename_i xs e
      obtain ⟨vs, h1, r4⟩ := g3.obj _ _ e
      refine .inl ⟨p, vs, rfl, SqL.of h1, fun p' hp => ?_⟩
      obtain ⟨g4, s4⟩ := lst_laid g3 hp (cut_rel r4 i j)
      exact k _ _ _ _ (q3 p' (g3.fresh hp)) (.ref p') g4 (s13.trans s4)
    · exact q3.elim
  | _ => exact q3.elim
/-- xs[::-1] of a list -/
def revT : R1T
  | .ref a, G, Φ => match G a with
    | some (.lst xs) => ∀ p, G p = none → Φ (.ref p) (gup G p (.lst xs.reverse))
    | _ => False
  | _, _, _ => False
theorem e_rev {k : Nat} {p1 p2 p3 : Pos} (ha : E en X a la) : E en X (.Subscript a (.Slice none none (some (.UnaryOp .USub (.Constant (.int 1) k p1) p2)) p3) pos) (lUn revT la) := by
  refine PE.weak (pe_revL ha) fun σ H Q ⟨S, G, Φ, s, g, q, kk⟩ => ?_
  refine ⟨S, G, _, s, g, q, fun t G1 v H1 q1 r1 g1 s1 => ?_⟩
  cases r1 with
  | ref p =>
    simp only [revT] at q1
    split at q1
    · rename_i xs e
      obtain ⟨vs, h1, r4⟩ := g1.obj _ _ e
      refine ⟨p, vs, rfl, SqL.of h1, fun p' hp => ?_⟩
      obtain ⟨g4, s4⟩ := lst_laid g1 hp r4.rev
      exact kk _ _ _ _ (q1 p' (g1.fresh hp)) (.ref p') g4 (s1.trans s4)
    · exact q1.elim
  | _ => exact q1.elim

/-! ### in, not in -/
def flatT : T → Bool
  | .bl _ | .int _ | .str _ | .non => true
  | _ => false
/-- a key in a dict; a sign in a text; data in a list -/
def inT (neg : Bool) : R2T
  | t, .ref a, G, Φ => match G a with
    | some (.dic kvs) => (match keyT t with
      | some _ => Φ (.bl (if neg then !(dlook kvs t).isSome else (dlook kvs t).isSome)) G
      | none => False)
    | some (.fdic _ _ kvs) => (match keyT t with
      | some _ => Φ (.bl (if neg then !(dlook kvs t).isSome else (dlook kvs t).isSome)) G
      | none => False)
    | some (.lst _) => ∃ d ds, Dat G t d ∧ Dat G (.ref a) (.list ds) ∧ SeqAt.shaped d = true ∧ SeqAt.shaped (.list ds) = true ∧ Φ (.bl (if neg then !ds.any fun z => PyData.eqv z d else ds.any fun z => PyData.eqv z d)) G
    | _ => False
  | .str x, .str z, G, Φ => ∃ c, x = ⟨#[c]⟩ ∧ Φ (.bl (if neg then !decide (c ∈ z.cps.toList) else decide (c ∈ z.cps.toList))) G
  | .str x, .tup ts, G, Φ => ∃ ss : List Str, ts = ss.map T.str ∧ Φ (.bl (if neg then !decide (x ∈ ss) else decide (x ∈ ss))) G
  | _, _, _, _ => False
theorem RelL.strs {K : Fr0} {H : Hp} : ∀ {vs : List V} {ss : List Str}, RelL K H vs (ss.map T.str) → vs = ss.map V.str
  | [], [], _ => rfl
  | v :: vs, s :: ss, h => by
    rw [List.map_cons] at h
    cases h with
    | cons h1 h2 =>
      cases h1
      rw [List.map_cons, RelL.strs h2]
  | [], _ :: _, h => by rw [List.map_cons] at h; cases h
  | _ :: _, [], h => by cases h
theorem inV_strs (x : Str) : ∀ ss : List Str, inV (.str x) (ss.map V.str) = decide (x ∈ ss)
  | [] => rfl
  | s :: ss => by
    have ih := inV_strs x ss
    unfold inV at ih ⊢
    rw [List.map_cons, List.any_cons, ih]
    have e : eqV (.str s) (.str x) = decide (x = s) := by
      show (s == x) = _
      by_cases h : s = x
      · subst h; simp
      · have h2 : ¬ x = s := fun z => h z.symm
        simp [h, h2]
    rw [e]
    by_cases h : x = s <;> simp [h]
theorem flat_strs (ss : List Str) : (ss.map V.str).all flatV = true := by
  rw [List.all_eq_true]
  intro v hv
  obtain ⟨s, _, rfl⟩ := List.mem_map.mp hv
  rfl
theorem op_din (hu : X.A.units + 1 < cLine) : OpR X (compareOp .In) (fun y x H Q => ∃ a k kvs, x = .ref a ∧ y = kV k ∧ Rd H a (.dK kvs) ∧ Q (.bl (valV kvs k).isSome) H) := by
  intro pins s σ H y x u v Q I ry rx h
  obtain ⟨a, k, kvs, rfl, rfl, hp, q⟩ := h
  obtain rfl : v = Value.ref a := rx
  exact d_in hu I (.inl ⟨kvs, k, hp, rfl, rfl⟩) ry fun s3 I3 => ⟨.bl _, H, I3, rfl, q⟩
theorem op_dnotin (hu : X.A.units + 1 < cLine) : OpR X (compareOp .NotIn) (fun y x H Q => ∃ a k kvs, x = .ref a ∧ y = kV k ∧ Rd H a (.dK kvs) ∧ Q (.bl (!(valV kvs k).isSome)) H) := by
  intro pins s σ H y x u v Q I ry rx h
  obtain ⟨a, k, kvs, rfl, rfl, hp, q⟩ := h
  obtain rfl : v = Value.ref a := rx
  exact d_notIn hu I (.inl ⟨kvs, k, hp, rfl, rfl⟩) ry fun s3 I3 => ⟨.bl _, H, I3, rfl, q⟩
theorem look_some {K : Fr0} {H : Hp} {vs : List (Key × V)} {ts : List (T × T)} (r : RelD K H vs ts) (k : Key) : (valV vs k).isSome = (dlook ts (kT k)).isSome := by
  rcases r.look (k := k) with ⟨h1, h2⟩ | ⟨t, v, h1, h2, _⟩ <;> rw [h1, h2] <;> rfl
theorem o_in (hu : X.A.units + 65 < cLine) : OpR X (compareOp .In) (low2 X.K en (inT false)) := by
  refine OpR.weak (OpR.or (op_din (by omega)) (OpR.or (op_inD hu) (OpR.or op_in_sign op_in_seq))) fun x y H Q ⟨t, u, G, Φ, rt, ru, g, q, k⟩ => ?_
  cases ru with
  | ref a =>
    have q : (match G a with
      | some (.dic kvs) => (match keyT t with
        | some _ => Φ (.bl (dlook kvs t).isSome) G
        | none => False)
      | some (.fdic _ _ kvs) => (match keyT t with
        | some _ => Φ (.bl (dlook kvs t).isSome) G
        | none => False)
      | some (.lst _) => ∃ d ds, Dat G t d ∧ Dat G (.ref a) (.list ds) ∧ SeqAt.shaped d = true ∧ SeqAt.shaped (.list ds) = true ∧ Φ (.bl (ds.any fun z => PyData.eqv z d)) G
      | _ => False) := by cases t <;> exact q
    split at q
    · rename_i kvs e
      split at q
      · rename_i k0 e1
        obtain ⟨vs, h1, r1⟩ := g.obj _ _ e
        have eu := keyT_kT e1
        subst eu
        exact .inl ⟨a, k0, vs, rfl, rt.key, .inl h1, by rw [look_some r1]; exact k _ _ _ _ q (.bl _) g (Step.refl H G)⟩
      · exact q.elim
    · rename_i ob vs kvs e
      split at q
      · rename_i k0 e1
        obtain ⟨h1, r1⟩ := g.obj _ _ e
        have eu := keyT_kT e1
        subst eu
        exact .inl ⟨a, k0, vs, rfl, rt.key, .inr ⟨ob, h1⟩, by rw [look_some r1]; exact k _ _ _ _ q (.bl _) g (Step.refl H G)⟩
      · exact q.elim
    · obtain ⟨d, ds, h1, h2, h3, h4, q⟩ := q
      exact .inr (.inl ⟨d, ds, h1.dp g rt, h2.dp g (.ref a), h3, h4, k _ _ _ _ q (.bl _) g (Step.refl H G)⟩)
    · exact q.elim
  | str z =>
    cases rt with
    | str x =>
      obtain ⟨c, rfl, q⟩ := q
      exact .inr (.inr (.inl ⟨c, z, rfl, rfl, k _ _ _ _ q (.bl _) g (Step.refl H G)⟩))
    | _ => exact q.elim
  | tup hs rs =>
    cases rt with
    | str x =>
      obtain ⟨ss, rfl, q⟩ := q
      have e := rs.strs
      subst e
      refine .inr (.inr (.inr ⟨_, _, rfl, .inr hs, rfl, flat_strs ss, ?_⟩))
      rw [if_neg Bool.false_ne_true, inV_strs]
      exact k _ _ _ _ q (.bl _) g (Step.refl H G)
    | _ => exact q.elim
  | _ => cases rt <;> exact q.elim
theorem o_notin (hu : X.A.units + 65 < cLine) : OpR X (compareOp .NotIn) (low2 X.K en (inT true)) := by
  refine OpR.weak (OpR.or (op_dnotin (by omega)) (OpR.or (op_notInD hu) (OpR.or op_notIn_sign op_notIn_seq))) fun x y H Q ⟨t, u, G, Φ, rt, ru, g, q, k⟩ => ?_
  cases ru with
  | ref a =>
    have q : (match G a with
      | some (.dic kvs) => (match keyT t with
        | some _ => Φ (.bl (!(dlook kvs t).isSome)) G
        | none => False)
      | some (.fdic _ _ kvs) => (match keyT t with
        | some _ => Φ (.bl (!(dlook kvs t).isSome)) G
        | none => False)
      | some (.lst _) => ∃ d ds, Dat G t d ∧ Dat G (.ref a) (.list ds) ∧ SeqAt.shaped d = true ∧ SeqAt.shaped (.list ds) = true ∧ Φ (.bl (!ds.any fun z => PyData.eqv z d)) G
      | _ => False) := by cases t <;> exact q
    split at q
    · rename_i kvs e
      split at q
      · rename_i k0 e1
        obtain ⟨vs, h1, r1⟩ := g.obj _ _ e
        have eu := keyT_kT e1
        subst eu
        exact .inl ⟨a, k0, vs, rfl, rt.key, .inl h1, by rw [look_some r1]; exact k _ _ _ _ q (.bl _) g (Step.refl H G)⟩
      · exact q.elim
    · rename_i ob vs kvs e
      split at q
      · rename_i k0 e1
        obtain ⟨h1, r1⟩ := g.obj _ _ e
        have eu := keyT_kT e1
        subst eu
        exact .inl ⟨a, k0, vs, rfl, rt.key, .inr ⟨ob, h1⟩, by rw [look_some r1]; exact k _ _ _ _ q (.bl _) g (Step.refl H G)⟩
      · exact q.elim
    · obtain ⟨d, ds, h1, h2, h3, h4, q⟩ := q
      exact .inr (.inl ⟨d, ds, h1.dp g rt, h2.dp g (.ref a), h3, h4, k _ _ _ _ q (.bl _) g (Step.refl H G)⟩)
    · exact q.elim
  | str z =>
    cases rt with
    | str x =>
      obtain ⟨c, rfl, q⟩ := q
      exact .inr (.inr (.inl ⟨c, z, rfl, rfl, k _ _ _ _ q (.bl _) g (Step.refl H G)⟩))
    | _ => exact q.elim
  | tup hs rs =>
    cases rt with
    | str x =>
      obtain ⟨ss, rfl, q⟩ := q
      have e := rs.strs
      subst e
      refine .inr (.inr (.inr ⟨_, _, rfl, .inr hs, rfl, flat_strs ss, ?_⟩))
      rw [if_pos rfl, inV_strs]
      exact k _ _ _ _ q (.bl _) g (Step.refl H G)
    | _ => exact q.elim
  | _ => cases rt <;> exact q.elim
end
end Dv
namespace Dv
open PySem L2
section
variable {X : Cx} {a b c e o i : Expr} {es : List Expr} {st : Stmt} {ss ss2 : List Stmt} {la lb lo li : LE} {l : LA} {tl : LT} {pos p2 : Pos} {ls ms : LS}

/-! ### small statements -/
def lNext : LS := fun L S G => L.nx S G
/-- what was made and isn't told any more may be forgotten in between -/
def lSeq (a b : LS) : LS := fun L S G => a { L with nx := fun S' G' => ∃ G0, Sub G0 G' ∧ b L S' G0 } S G
def lDrop (la : LE) : LS := fun L S G => la S G fun _ G1 => L.nx S G1
def lRet (la : LE) : LS := fun L S G => la S G L.rt
def lRetN : LS := fun L _ G => L.rt .non G
def lIfS (c : LT) (a b : LS) : LS := fun L S G => c S G fun k G1 => if k = true then a L S G1 else b L S G1
def lBreak : LS := fun L S G => L.bk S G
def lCont : LS := fun L S G => L.ct S G
def lNever : LS := fun _ _ _ => False
theorem es_nil : Ess en X [] lNext := PSs.weak pss_nil fun D σ H ⟨S, G, L, s, g, q, e⟩ => e.nx S G σ H q s g (Step.refl H G)
theorem es_cons (h : Es en X st ls) (hr : Ess en X ss ms) : Ess en X (st :: ss) (lSeq ls ms) := by
  refine PSs.weak (pss_cons h hr) fun D σ H ⟨S, G, L, s, g, q, e⟩ => ?_
  refine ⟨S, G, { L with nx := fun S' G' => ∃ G0, Sub G0 G' ∧ ms L S' G0 }, s, g, q, ⟨fun S' G' σ' H' ⟨G0, sb, q'⟩ s' g' t => ⟨S', G0, L, s', g'.sub sb, q', e.step (t.sub sb)⟩, e.rt, e.bk, e.ct⟩⟩
theorem es_one (h : Es en X st ls) : Ess en X [st] ls := pss_one h
theorem es_never : Ess en X ss lNever := PSs.weak pss_never fun D σ H ⟨S, G, L, s, g, q, e⟩ => q.elim
theorem s_never : Es en X st lNever := PS.weak ps_never fun D σ H ⟨S, G, L, s, g, q, e⟩ => q.elim
theorem s_pass : Es en X (.Pass pos) lNext := PS.weak ps_pass fun D σ H ⟨S, G, L, s, g, q, e⟩ => e.nx S G σ H q s g (Step.refl H G)
theorem s_break : Es en X (.Break pos) lBreak := PS.weak ps_break fun D σ H ⟨S, G, L, s, g, q, e⟩ => e.bk S G σ H q s g (Step.refl H G)
theorem s_cont : Es en X (.Continue pos) lCont := PS.weak ps_continue fun D σ H ⟨S, G, L, s, g, q, e⟩ => e.ct S G σ H q s g (Step.refl H G)
theorem s_doc {x : Str} {j : Nat} {p : Pos} : Es en X (.Expr (.Constant (.str x) j p) pos) lNext := PS.weak ps_doc fun D σ H ⟨S, G, L, s, g, q, e⟩ => e.nx S G σ H q s g (Step.refl H G)
theorem s_expr (h : E en X e la) (hs : swapsWith e none pos.line X.env = pure false := by rfl) : Es en X (.Expr e pos) (lDrop la) :=
  PS.weak (ps_expr h hs) fun D σ H ⟨S, G, L, s, g, q, en⟩ => ⟨S, G, _, s, g, q, fun t G1 v H1 q1 r1 g1 s1 => en.nx S G1 σ H1 q1 (s.stay (s1.stay g)) g1 s1⟩
theorem s_ret (h : E en X e la) : Es en X (.Return (some e) pos) (lRet la) :=
  PS.weak (ps_ret h) fun D σ H ⟨S, G, L, s, g, q, en⟩ => ⟨S, G, _, s, g, q, fun t G1 v H1 q1 r1 g1 s1 => en.rt t G1 v H1 q1 r1 g1 s1⟩
theorem s_retN : Es en X (.Return none pos) lRetN := PS.weak ps_retN fun D σ H ⟨S, G, L, s, g, q, en⟩ => en.rt .non G .non H q .non g (Step.refl H G)
theorem s_if (hc : Et en X c tl) (ha : Ess en X ss ls) (hb : Ess en X ss2 ms) : Es en X (.If c ss ss2 pos) (lIfS tl ls ms) := by
  refine PS.weak (ps_if hc ha hb) fun D σ H ⟨S, G, L, s, g, q, e⟩ => ?_
  refine ⟨S, G, _, s, g, q, fun k G1 H1 q1 g1 s1 => ?_⟩
  cases k with
  | true => exact ⟨S, G1, L, s.stay (s1.stay g), g1, q1, e.step s1⟩
  | false => exact ⟨S, G1, L, s.stay (s1.stay g), g1, q1, e.step s1⟩

/-! ### targets that are names -/
theorem wipe_set {σ : L2.St} {j : Nat} {x : Option V} : ∀ {ws : List Nat}, j ∈ ws → L2.wipe (σ.set j x) ws = L2.wipe σ ws
  | [], h => by cases h
  | w :: ws, h => by
    show (L2.wipe (σ.set j x) ws).set w none = (L2.wipe σ ws).set w none
    by_cases hj : j ∈ ws
    · rw [wipe_set hj]
    · have e : j = w := by
        rcases List.mem_cons.mp h with z | z
        · exact z
        · exact absurd z hj
      subst e
      have aux : ∀ us : List Nat, j ∉ us → L2.wipe (σ.set j x) us = (L2.wipe σ us).set j x := by
        intro us
        induction us with
        | nil => intro _; rfl
        | cons u us ih =>
          intro hu
          show (L2.wipe (σ.set j x) us).set u none = ((L2.wipe σ us).set u none).set j x
          rw [ih fun z => hu (List.mem_cons_of_mem _ z), List.set_comm _ _ (fun z => hu (by rw [z]; exact List.mem_cons_self))]
      rw [aux ws hj, List.set_set]
def Keeps (σ σ' : L2.St) (vs : List Nat) : Prop := ∀ ws : List Nat, (∀ j ∈ vs, j ∈ ws) → L2.wipe σ' ws = L2.wipe σ ws
def lowN (K : Fr0) (f : T → S2 → Option S2) (vs : List Nat) : TG := fun v σ H Q => ∃ t S S', Rel K H v t ∧ SRel K H σ S ∧ f t S = some S' ∧ ∀ σ', SRel K H σ' S' → Keeps σ σ' vs → Q σ' H
def lowNs (K : Fr0) (f : List T → S2 → Option S2) (vs : List Nat) : TGs := fun us σ H Q => ∃ ts S S', RelL K H us ts ∧ SRel K H σ S ∧ f ts S = some S' ∧ ∀ σ', SRel K H σ' S' → Keeps σ σ' vs → Q σ' H
def Eg (X : Cx) (tg : Expr) (f : T → S2 → Option S2) (vs : List Nat) : Prop := PG X tg (lowN X.K f vs)
def Egs (X : Cx) (tg : List Expr) (f : List T → S2 → Option S2) (vs : List Nat) : Prop := PGs X tg (lowNs X.K f vs)
theorem PG.weak {t t' : TG} (h : PG X e t) (w : ∀ v σ H Q, t' v σ H Q → t v σ H Q) : PG X e t' := ⟨fun pins s σ H v u Q I r q => h.run pins s σ H v u Q I r (w v σ H Q q)⟩
theorem PGs.weak {t t' : TGs} (h : PGs X es t) (w : ∀ v σ H Q, t' v σ H Q → t v σ H Q) : PGs X es t' := ⟨fun pins s σ H v u Q I r q => h.run pins s σ H v u Q I r (w v σ H Q q)⟩
def gN (j : Nat) : T → S2 → Option S2 := fun t S => some (S.set j (some t))
def gNil2 : List T → S2 → Option S2 := fun ts S => match ts with
  | [] => some S
  | _ => none
def gCons2 (f : T → S2 → Option S2) (r : List T → S2 → Option S2) : List T → S2 → Option S2 := fun ts S => match ts with
  | t :: ts => (match f t S with
    | some S' => r ts S'
    | none => none)
  | [] => none
def gT (n : Nat) (f : List T → S2 → Option S2) : T → S2 → Option S2 := fun t S => match t with
  | .tup ts => if ts.length = n then f ts S else none
  | _ => none
theorem g_name {j : Nat} {x : Str} (hN : X.N.Nodup) (hi : X.N[j]? = some x) (hx : Loc X.env.scope x) (hf : X.fn x = true ∨ X.env.scope.names.lookup x = some .local := by first | exact .inl rfl | exact .inr rfl | assumption) : Eg X (.Name x pos) (gN j) [j] :=
  PG.weak (pg_name hN hi hx hf) fun v σ H Q ⟨t, S, S', r, s, e, k⟩ => by
    cases e
    exact k _ (s.set r j) fun ws h => wipe_set (h j (by simp))
theorem gs_nil : Egs X [] gNil2 [] := PGs.weak pgs_nil fun us σ H Q ⟨ts, S, S', r, s, e, k⟩ => by
  cases r with
  | nil =>
    cases e
    exact ⟨rfl, k σ s fun _ _ => rfl⟩
  | cons _ _ => cases e
theorem gs_cons {f : T → S2 → Option S2} {r : List T → S2 → Option S2} {vs ws : List Nat} (h : Eg X e f vs) (hr : Egs X es r ws)
    (he : (assignEach (e :: es) X.env).map (·.2) = assign e X.env :: (assignEach es X.env).map (·.2) := by rfl) : Egs X (e :: es) (gCons2 f r) (vs ++ ws) := by
  refine PGs.weak (pgs_cons h hr he) fun us σ H Q ⟨ts, S, S', rr, s, q, k⟩ => ?_
  cases rr with
  | nil => cases q
  | @cons v0 t us ts r1 r2 =>
    simp only [gCons2] at q
    split at q
    · rename_i S1 e1
      refine ⟨_, _, rfl, t, S, S1, r1, s, e1, fun σ1 s1 k1 => ?_⟩
      refine ⟨ts, S1, S', r2, s1, q, fun σ2 s2 k2 => k σ2 s2 fun ws hw => ?_⟩
      rw [k2 ws fun j hj => hw j (List.mem_append_right _ hj), k1 ws fun j hj => hw j (List.mem_append_left _ hj)]
    · cases q
theorem g_tup {f : List T → S2 → Option S2} {vs : List Nat} {n k : Nat} (hc : X.calm = true) (h : Egs X es f vs)
    (hn : (assignEach es X.env).length = n := by rfl) (hst : (assignEach es X.env).findIdx? (·.1) = none := by rfl) : Eg X (.Tuple es k pos) (gT n f) vs :=
  PG.weak (pg_tup hc h hn hst) fun v σ H Q ⟨t, S, S', r, s, e, k⟩ => by
    cases r with
    | @tup p xs ts hs rs =>
      simp only [gT] at e
      split at e
      · rename_i hl
        exact ⟨p, xs, rfl, hs, rs.length.trans hl, ts, S, S', rs, s, e, k⟩
      · cases e
    | _ => cases e
def lAsg (la : LE) (f : T → S2 → Option S2) : LS := fun L S G => la S G fun t G1 => match f t S with
  | some S' => L.nx S' G1
  | none => False
theorem low_asg {K : Fr0} {f : T → S2 → Option S2} {vs : List Nat} : ∀ D σ H, lowS K en (lAsg la f) D σ H → tAsg (low K en la) (lowN K f vs) D σ H := by
  intro D σ H ⟨S, G, L, s, g, q, en⟩
  refine ⟨S, G, _, s, g, q, fun t G1 v H1 q1 r1 g1 s1 => ?_⟩
  split at q1
  · rename_i S' e
    exact ⟨t, S, S', r1, s.stay (s1.stay g), e, fun σ' s' _ => en.nx S' G1 σ' H1 q1 s' g1 s1⟩
  · exact q1.elim
theorem s_asg {f : T → S2 → Option S2} {vs : List Nat} (he : E en X e la) (hg : Eg X o f vs) (hs : swapsWithSole [o] e pos.line X.env = pure false := by rfl) (hw : swappedStores [o] e X.env = pure none := by rfl)
    (h1 : (assignEach [o] X.env).map (·.2) = [assign o X.env] := by rfl) : Es en X (.Assign [o] e pos) (lAsg la f) := PS.weak (ps_asg he hg hs hw h1) low_asg
theorem s_set {j : Nat} {x : Str} {pos' : Pos} (hN : X.N.Nodup) (hi : X.N[j]? = some x) (hx : Loc X.env.scope x) (he : E en X e la) (hs : swapsWith e (some (.Name x pos')) pos.line X.env = pure false := by rfl)
    (hf : X.fn x = true ∨ X.env.scope.names.lookup x = some .local := by first | exact .inl rfl | exact .inr rfl | assumption) : Es en X (.Assign [.Name x pos'] e pos) (lAsg la (gN j)) :=
  PS.weak (ps_set hN hi hx he hs hf) fun D σ H ⟨S, G, L, s, g, q, en⟩ => ⟨S, G, _, s, g, q, fun t G1 v H1 q1 r1 g1 s1 => en.nx _ G1 _ H1 q1 ((s.stay (s1.stay g)).set r1 j) g1 s1⟩
def lPar (j k : Nat) (l : LA) : LS := fun L S G => l S G fun ts G1 => match ts with
  | [t, u] => L.nx ((S.set j (some t)).set k (some u)) G1
  | _ => False
theorem s_par {j k : Nat} {x y : Str} {px py pt : Pos} {kt k2 : Nat} {pt2 : Pos} (hc : X.calm = true) (hN : X.N.Nodup) (hi : X.N[j]? = some x) (hj : X.N[k]? = some y) (hij : j ≠ k)
    (hx : X.env.scope.names.lookup x = some .local) (hy : X.env.scope.names.lookup y = some .local) (ha : Ea en X [a, b] l)
    (hw : swappedStores [.Tuple [.Name x px, .Name y py] kt pt] (.Tuple [a, b] k2 pt2) X.env = pure (some [x, y]))
    (hs : swapsWithSole [.Tuple [.Name x px, .Name y py] kt pt] (.Tuple [a, b] k2 pt2) pos.line X.env = pure false := by rfl) : Es en X (.Assign [.Tuple [.Name x px, .Name y py] kt pt] (.Tuple [a, b] k2 pt2) pos) (lPar j k l) :=
  PS.weak (ps_par hc hN hi hj hij hx hy ha hw hs) fun D σ H ⟨S, G, L, s, g, q, en⟩ => by
    refine ⟨S, G, _, s, g, q, fun ts G1 vs H1 q1 r1 g1 s1 => ?_⟩
    split at q1
    · rename_i t u
      cases r1 with
      | cons h1 h2 =>
        cases h2 with
        | cons h2 h3 =>
          cases h3
          exact ⟨_, _, rfl, en.nx _ G1 _ H1 q1 (((s.stay (s1.stay g)).set h1 j).set h2 k) g1 s1⟩
    · exact q1.elim
def lPar3 (j k m : Nat) (l : LA) : LS := fun L S G => l S G fun ts G1 => match ts with
  | [t, u, v] => L.nx (((S.set j (some t)).set k (some u)).set m (some v)) G1
  | _ => False
theorem s_par3 {j k m : Nat} {x y z : Str} {px py pz pt : Pos} {kt k2 : Nat} {pt2 : Pos} (hc : X.calm = true) (hN : X.N.Nodup) (hi : X.N[j]? = some x) (hj : X.N[k]? = some y) (hm : X.N[m]? = some z) (hij : j ≠ k) (hil : j ≠ m) (hjl : k ≠ m)
    (hx : X.env.scope.names.lookup x = some .local) (hy : X.env.scope.names.lookup y = some .local) (hz : X.env.scope.names.lookup z = some .local) (ha : Ea en X [a, b, c] l)
    (hw : swappedStores [.Tuple [.Name x px, .Name y py, .Name z pz] kt pt] (.Tuple [a, b, c] k2 pt2) X.env = pure (some [x, y, z]))
    (hs : swapsWithSole [.Tuple [.Name x px, .Name y py, .Name z pz] kt pt] (.Tuple [a, b, c] k2 pt2) pos.line X.env = pure false := by rfl) : Es en X (.Assign [.Tuple [.Name x px, .Name y py, .Name z pz] kt pt] (.Tuple [a, b, c] k2 pt2) pos) (lPar3 j k m l) :=
  PS.weak (ps_par3 hc hN hi hj hm hij hil hjl hx hy hz ha hw hs) fun D σ H ⟨S, G, L, s, g, q, en⟩ => by
    refine ⟨S, G, _, s, g, q, fun ts G1 vs H1 q1 r1 g1 s1 => ?_⟩
    split at q1
    · rename_i t u v
      cases r1 with
      | cons h1 h2 =>
        cases h2 with
        | cons h2 h3 =>
          cases h3 with
          | cons h3 h4 =>
            cases h4
            exact ⟨_, _, _, rfl, en.nx _ G1 _ H1 q1 ((((s.stay (s1.stay g)).set h1 j).set h2 k).set h3 m) g1 s1⟩
    · exact q1.elim

/-! ### stores at a[i] -/
def dput (kvs : List (T × T)) (k v : T) : List (T × T) :=
  if (kvs.any fun kv => decide (kv.1 = k)) = true then kvs.map (fun kv => if kv.1 = k then (kv.1, v) else kv) else kvs ++ [(k, v)]
theorem RelD.any {K : Fr0} {H : Hp} (k : Key) : ∀ {vs : List (Key × V)} {ts : List (T × T)}, RelD K H vs ts → (vs.any fun kv => decide (kv.1 = k)) = (ts.any fun kv => decide (kv.1 = kT k))
  | _, _, .nil => rfl
  | _, _, .cons (k := j) _ r => by
    rw [List.any_cons, List.any_cons, RelD.any k r]
    congr 1
    by_cases e : j = k
    · subst e; simp
    · have e' : ¬ kT j = kT k := fun z => e (kT_inj z)
      simp [e, e']
theorem RelD.mapPut {K : Fr0} {H : Hp} (k : Key) {v : V} {t : T} (h : Rel K H v t) : ∀ {vs : List (Key × V)} {ts : List (T × T)}, RelD K H vs ts →
    RelD K H (vs.map fun kv => if kv.1 = k then (kv.1, v) else kv) (ts.map fun kv => if kv.1 = kT k then (kv.1, t) else kv)
  | _, _, .nil => .nil
  | _, _, .cons (k := j) hr r => by
    rw [List.map_cons, List.map_cons]
    by_cases e : j = k
    · subst e
      rw [if_pos rfl, if_pos rfl]
      exact .cons h (RelD.mapPut _ h r)
    · have e' : ¬ kT j = kT k := fun z => e (kT_inj z)
      rw [if_neg e, if_neg e']
      exact .cons hr (RelD.mapPut _ h r)
theorem RelD.app {K : Fr0} {H : Hp} : ∀ {vs ws : List (Key × V)} {ts us : List (T × T)}, RelD K H vs ts → RelD K H ws us → RelD K H (vs ++ ws) (ts ++ us)
  | _, _, _, _, .nil, s => s
  | _, _, _, _, .cons r t, s => .cons r (RelD.app t s)
theorem RelD.put {K : Fr0} {H : Hp} {k : Key} {v : V} {t : T} {vs : List (Key × V)} {ts : List (T × T)} (r : RelD K H vs ts) (h : Rel K H v t) : RelD K H (putK vs k v) (dput ts (kT k) t) := by
  unfold putK dput
  rw [r.any k]
  split
  · exact r.mapPut k h
  · exact r.app (.cons h .nil)
theorem RelD.length {K : Fr0} {H : Hp} : ∀ {vs : List (Key × V)} {ts : List (T × T)}, RelD K H vs ts → vs.length = ts.length
  | _, _, .nil => rfl
  | _, _, .cons _ r => by simp [RelD.length r]
def setT : T → T → T → Gp → (Gp → Prop) → Prop
  | .ref a, u, v, G, Ψ => match G a with
    | some (.lst xs) => (match u with
      | .int k => (match ixN xs.length k with
        | some j => Ψ (gup G a (.lst (xs.set j v)))
        | none => False)
      | _ => False)
    | some (.dic kvs) => (match keyT u with
      | some _ => kvs.length < sizeLine ∧ Ψ (gup G a (.dic (dput kvs u v)))
      | none => False)
    | _ => False
  | _, _, _, _, _ => False
theorem set_dk (hu : X.A.units + 1 < cLine) : PSet X (fun o i v H Q => ∃ a k kvs, o = .ref a ∧ i = kV k ∧ H a = some (.dK kvs) ∧ kvs.length < sizeLine ∧ Q (L2.upd H a (.dK (putK kvs k v)))) := by
  intro pins s σ H o i v ov iv u Q I ro ri rv h
  obtain ⟨a, k, kvs, rfl, rfl, hp, hl, q⟩ := h
  obtain rfl : ov = Value.ref a := ro
  exact d_setItem hu I (DPut.k hp hl) ri rv fun s' I' => ⟨_, I', q⟩
theorem PSet.or {r r' : TSet} (h : PSet X r) (h' : PSet X r') : PSet X (fun o i v H Q => r o i v H Q ∨ r' o i v H Q) := fun pins s σ H o i v ov iv u Q I ro ri rv q => q.elim (h pins s σ H o i v ov iv u Q I ro ri rv) (h' pins s σ H o i v ov iv u Q I ro ri rv)
def lSet (lo li lv : LE) : LS := fun L S G => lv S G fun v G1 => lo S G1 fun t G2 => li S G2 fun u G3 => setT t u v G3 fun G4 => L.nx S G4
theorem s_store {e : Expr} {lv : LE} {p3 : Pos} (hu : X.A.units + 1 < cLine) (ho : E en X o lo) (hi : E en X i li) (he : E en X e lv) (hs : swapsWithSole [.Subscript o i p3] e pos.line X.env = pure false := by rfl) (hw : swappedStores [.Subscript o i p3] e X.env = pure none := by rfl)
    (h1 : (assignEach [.Subscript o i p3] X.env).map (·.2) = [assign (.Subscript o i p3) X.env] := by rfl)
    (ha : ∀ v, assign (.Subscript o i p3) X.env v = (do
      let ov ← holding [v] (eval o X.env)
      let iv ← holding [v, ov] (eval i X.env)
      standAt p3
      holding [v, ov, iv] (setItem ov iv v)
      release [v, ov, iv] []) := by intro _; rfl) : Es en X (.Assign [.Subscript o i p3] e pos) (lSet lo li lv) := by
  refine PS.weak (ps_asg he (pg_sub ho hi (PSet.or set_list (set_dk hu)) ha) hs hw h1) fun D σ H ⟨S, G, L, s, g, q, en⟩ => ?_
  refine ⟨S, G, _, s, g, q, fun v G1 x H1 q1 r1 g1 s1 => ?_⟩
  refine ⟨S, G1, _, s.stay (s1.stay g), g1, q1, fun t G2 y H2 q2 r2 g2 s2 => ?_⟩
  refine ⟨S, G2, _, s.stay ((s1.trans s2).stay g), g2, q2, fun u G3 z H3 q3 r3 g3 s3 => ?_⟩
  have s13 := (s1.trans s2).trans s3
  have rv := r1.stay ((s2.trans s3).stay g1)
  have rt := r2.stay (s3.stay g2)
  cases rt with
  | ref p =>
    simp only [setT] at q3
    split at q3
    · rename_i xs e3
      obtain ⟨vs, h4, r4⟩ := g3.obj _ _ e3
      cases r3 with
      | int k =>
        simp only at q3
        split at q3
        · rename_i j ej
          obtain ⟨g4, s4, st⟩ := g3.upd (a := p) (ho := .lst (vs.set j x)) (o := .lst (xs.set j v)) (.inr ⟨_, e3, fun n z => by cases z⟩) (fun n z => by cases z) ⟨_, upd_same, RelL.stay (stayL g3 e3 (fun n z => by cases z)) (r4.set rv j)⟩
          refine .inl ⟨p, vs, k, j, rfl, rfl, h4, by rw [r4.length]; exact ej, ?_⟩
          exact en.nx S _ σ _ q3 (s.stay ((s13.trans s4).stay g)) g4 (s13.trans s4)
        · exact q3.elim
      | _ => exact q3.elim
    · rename_i kvs e3
      split at q3
      · rename_i k0 ek
        obtain ⟨vs, h4, r4⟩ := g3.obj _ _ e3
        have eu := keyT_kT ek
        subst eu
        obtain ⟨g4, s4, st⟩ := g3.upd (a := p) (ho := .dK (putK vs k0 x)) (o := .dic (dput kvs (kT k0) v)) (.inr ⟨_, e3, fun n z => by cases z⟩) (fun n z => by cases z) ⟨_, upd_same, RelD.stay (stayL g3 e3 (fun n z => by cases z)) (r4.put rv)⟩
        refine .inr ⟨p, k0, vs, rfl, r3.key, h4, by rw [r4.length]; exact q3.1, ?_⟩
        exact en.nx S _ σ _ q3.2 (s.stay ((s13.trans s4).stay g)) g4 (s13.trans s4)
      · exact q3.elim
    · exact q3.elim
  | _ => exact q3.elim
end
end Dv
namespace Dv
open PySem L2

/-! ### cells that are not tracked -/
theorem own_upd {H : Hp} {G : Gp} {D a : Addr} {ho : HO} (h : ¬ Own H G D) : Own (L2.upd H D ho) G a ↔ Own H G a := by
  have e : ∀ d n, G d = some (.drw n) → (Hid (L2.upd H D ho) d a ↔ Hid H d a) := by
    intro d n e
    have hd : d ≠ D := fun z => h (.inl ⟨_, z ▸ e⟩)
    unfold Hid
    rw [upd_ne hd]
  constructor
  · rintro (z | ⟨d, n, q, r⟩)
    · exact .inl z
    · exact .inr ⟨d, n, q, (e d n q).mp r⟩
  · rintro (z | ⟨d, n, q, r⟩)
    · exact .inl z
    · exact .inr ⟨d, n, q, (e d n q).mpr r⟩
theorem own_sub {H : Hp} {G G' : Gp} {a : Addr} (s : Sub G G') : Own H G a → Own H G' a := fun z => z.imp (fun ⟨o, q⟩ => ⟨o, s _ _ q⟩) fun ⟨d, n, q, h⟩ => ⟨d, n, s _ _ q, h⟩
theorem not_own_new {K : Fr0} {H : Hp} {G : Gp} {D : Addr} (g : HRel K en H G) (h : H D = none) : ¬ Own H G D := by
  intro z
  obtain ⟨u, e, _⟩ := g.own_kind z
  rw [h] at e
  cases e
theorem Step.under {H0 H : Hp} {G0 G : Gp} {D : Addr} {ho : HO} (s : Step H0 G0 H G) (h0 : H0 D = none) (h : ¬ Own H G D) : Step H0 G0 (L2.upd H D ho) G := by
  have ne : ∀ a o, H0 a = some o → a ≠ D := fun a o e z => by rw [z, h0] at e; cases e
  refine ⟨fun a o e n => ?_, fun a o e => ?_⟩
  · obtain ⟨h1, h2⟩ := s.fr a o e n
    exact ⟨by rw [upd_ne (ne a o e)]; exact h1, fun z => h2 ((own_upd h).mp z)⟩
  · obtain ⟨o', h1⟩ := s.al a o e
    exact ⟨o', by rw [upd_ne (ne a o e)]; exact h1⟩
/-- a cell of ours, not tracked, is changed -/
theorem HRel.under {K : Fr0} {H : Hp} {G : Gp} {D : Addr} {ho u : HO} (g : HRel K en H G) (h : ¬ Own H G D) (e : H D = some u) (hk : kind u = true) (hen : ∀ e ∈ en, e.1 D = none) : HRel K en (L2.upd H D ho) G ∧ Stay K H (L2.upd H D ho) := by
  have st : Stay K H (L2.upd H D ho) := by
    have pne : ∀ p u', H p = some u' → kind u' = false → p ≠ D := by
      intro p u' e' h1 z
      subst z
      rw [e] at e'
      cases e'
      rw [h1] at hk
      cases hk
    refine ⟨fun p xs q => ?_, fun p o xs q => by rw [upd_ne (pne _ _ q rfl)]; exact q⟩
    rcases q with (q | ⟨u', q⟩) | q
    · exact .inl (.inl (by rw [upd_ne (pne _ _ q rfl)]; exact q))
    · exact .inl (.inr ⟨u', by rw [upd_ne (pne _ _ q rfl)]; exact q⟩)
    · exact .inr q
  have gne : ∀ b o, G b = some o → b ≠ D := fun b o q z => h (.inl ⟨o, z ▸ q⟩)
  refine ⟨⟨fun b o q => ?_, fun d n b q r => ?_, g.one, fun e he => (g.hist e he).under (hen e he) h⟩, st⟩
  · by_cases hdr : ∃ n, o = .drw n
    · obtain ⟨n, rfl⟩ := hdr
      obtain ⟨lg, it, l, t, ls, is, r⟩ := g.obj b _ q
      have h1 : lg ≠ D := fun z => h (.inr ⟨b, n, q, lg, it, l, t, r.hd, .inl z.symm⟩)
      have h2 : it ≠ D := fun z => h (.inr ⟨b, n, q, lg, it, l, t, r.hd, .inr z.symm⟩)
      exact ⟨lg, it, l, t, ls, is, ⟨by rw [upd_ne (gne b _ q)]; exact r.hd, by rw [upd_ne h1]; exact r.hlg, by rw [upd_ne h2]; exact r.hit, r.ne, r.lpos, r.ipos, r.ilen, r.llen, r.l0, r.t0, r.tn⟩⟩
    · exact (g.obj b o q).stay st (fun n z => hdr ⟨n, z⟩) (upd_ne (gne b o q))
  · refine g.sep d n b q ?_
    unfold Hid at r ⊢
    rw [upd_ne (gne d _ q)] at r
    exact r
theorem Step.adopt {H0 H : Hp} {G0 G : Gp} {D : Addr} {o : O} (s : Step H0 G0 H G) (h0 : H0 D = none) (hd : ∀ n, o ≠ .drw n) : Step H0 G0 H (gup G D o) := by
  have ne : ∀ a u, H0 a = some u → a ≠ D := fun a u e z => by rw [z, h0] at e; cases e
  refine ⟨fun a u e n => ?_, s.al⟩
  obtain ⟨h1, h2⟩ := s.fr a u e n
  refine ⟨h1, fun z => h2 ?_⟩
  rcases z with ⟨u', q⟩ | ⟨d, m, q, r⟩
  · rw [gup_ne (ne a u e)] at q
    exact .inl ⟨u', q⟩
  · by_cases hz : d = D
    · subst hz
      rw [gup_same] at q
      exact absurd (Option.some.inj q) (hd m)
    · rw [gup_ne hz] at q
      exact .inr ⟨d, m, q, r⟩

/-- .. is tracked from now on -/
theorem HRel.adopt {K : Fr0} {H : Hp} {G : Gp} {D : Addr} {o : O} (g : HRel K en H G) (h : ¬ Own H G D) (hd : ∀ n, o ≠ .drw n) (r : ORel K H D o) (hen : ∀ e ∈ en, e.1 D = none) : HRel K en H (gup G D o) := by
  have gdr : ∀ d n, gup G D o d = some (.drw n) → G d = some (.drw n) := by
    intro d n e
    by_cases z : d = D
    · subst z
      rw [gup_same] at e
      exact absurd (Option.some.inj e) (hd n)
    · rw [gup_ne z] at e
      exact e
  refine ⟨fun b u e => ?_, fun d n b e q => ?_, fun d d' n n' e e' => g.one d d' n n' (gdr d n e) (gdr d' n' e'), fun e he => (g.hist e he).adopt (hen e he) hd⟩
  · by_cases z : b = D
    · subst z
      rw [gup_same] at e
      cases e
      exact r
    · rw [gup_ne z] at e
      exact g.obj b u e
  · have e' := gdr d n e
    have hb : b ≠ D := fun z => h (.inr ⟨d, n, e', z ▸ q⟩)
    rw [gup_ne hb]
    exact g.sep d n b e' q
theorem wipe_wipe (σ : L2.St) : ∀ vs : List Nat, L2.wipe (L2.wipe σ vs) vs = L2.wipe σ vs := by
  have get : ∀ (vs : List Nat) (τ : L2.St) (j : Nat), j ∈ vs → (L2.wipe τ vs)[j]? = if j < τ.length then some none else none := by
    intro vs
    induction vs with
    | nil => intro τ j h; cases h
    | cons v vs ih =>
      intro τ j h
      show ((L2.wipe τ vs).set v none)[j]? = _
      by_cases e : v = j
      · subst e
        by_cases hl : v < τ.length
        · rw [if_pos hl, List.getElem?_set_self (by rw [L2.wipe_length]; exact hl)]
        · rw [if_neg hl, List.getElem?_eq_none (by rw [List.length_set, L2.wipe_length]; omega)]
      · rw [List.getElem?_set_ne e]
        exact ih τ j ((List.mem_cons.mp h).resolve_left fun z => e z.symm)
  intro vs
  apply List.ext_getElem?
  intro j
  by_cases h : j ∈ vs
  · rw [get vs _ j h, get vs _ j h, L2.wipe_length]
  · rw [L2.wipe_out h]
/-! ### what is walked -/
structure ItOk (K : Fr0) (en : En) (J : It) (items : List T) (Keep : Gp → Prop) (kh : Hp → Prop) : Prop where
  stab : ∀ H H', Stay K H H' → kh H → kh H'
  go : ∀ (i : Nat) H G, HRel K en H G → Keep G → kh H → i < items.length → J.go i H
  stop : ∀ (i : Nat) H G, HRel K en H G → Keep G → kh H → items.length ≤ i → J.stop i H
  yld : ∀ (i : Nat) H G x H', HRel K en H G → Keep G → kh H → J.yld i H x H' → i < items.length → ∃ t, items[i]? = some t ∧ Rel K H' x t ∧ HRel K en H' G ∧ Step H G H' G
abbrev LI := S2 → Gp → (List T → (Gp → Prop) → Gp → Prop) → Prop
def lowI (K : Fr0) (en : En) (li : LI) : TI := fun σ H R => ∃ S G Ψ, SRel K H σ S ∧ HRel K en H G ∧ li S G Ψ ∧ ∀ items Keep G' H' J kh, Ψ items Keep G' → HRel K en H' G' → Step H G H' G' → ItOk K en J items Keep kh → kh H' → R J H'
def Ei (en : En) (X : Cx) (tg iter : Expr) (li : LI) : Prop := PI X tg iter (lowI X.K en li)
def forW (L : LEnds) (f : T → S2 → Option S2) (b : LS) (Keep : Gp → Prop) : List T → S2 → Gp → Prop
  | [], S, G => Keep G ∧ L.nx S G
  | t :: r, S, G => Keep G ∧ match f t S with
    | some S' => b { L with nx := fun S1 G1 => ∃ G0, Sub G0 G1 ∧ forW L f b Keep r S1 G0, ct := fun S1 G1 => ∃ G0, Sub G0 G1 ∧ forW L f b Keep r S1 G0, bk := L.nx } S' G
    | none => False
def lFor (li : LI) (f : T → S2 → Option S2) (b : LS) : LS := fun L S G => li S G fun items Keep G1 => forW L f b Keep items S G1
def lWhile (c : LT) (b : LS) : LS := fun L S G => ∃ W : Nat → S2 → Gp → Prop, (∃ m, W m S G) ∧ ∀ m S G, W m S G →
  c S G fun k G1 => ∃ G1', Sub G1' G1 ∧ if k = true then b { L with nx := fun S' G' => ∃ m' G0, m' < m ∧ Sub G0 G' ∧ W m' S' G0, ct := fun S' G' => ∃ m' G0, m' < m ∧ Sub G0 G' ∧ W m' S' G0, bk := L.nx } S G1' else L.nx S G1'
def lcW (Keep : Gp → Prop) (f : T → S2 → Option S2) (vs : List Nat) (tt : LT) (te : LE) (Fin : List T → Gp → Prop) (S : S2) : List T → List T → Gp → Prop
  | [], acc, G => Keep G ∧ Fin acc G
  | t :: r, acc, G => Keep G ∧ match f t (wipe2 S vs) with
    | some S2 => tt S2 G fun b G1 => if b = true then te S2 G1 fun y G2 => acc.length < sizeLine ∧ ∃ G0, Sub G0 G2 ∧ lcW Keep f vs tt te Fin S r (acc ++ [y]) G0 else ∃ G0, Sub G0 G1 ∧ lcW Keep f vs tt te Fin S r acc G0
    | none => False
def lLc (li : LI) (f : T → S2 → Option S2) (vs : List Nat) (tt : LT) (te : LE) : LE := fun S G Φ => li S G fun items Keep G1 =>
  lcW Keep f vs tt te (fun acc G' => ∀ p, G' p = none → Φ (.ref p) (gup G' p (.lst acc))) S items [] G1
def dcW (Keep : Gp → Prop) (f : T → S2 → Option S2) (vs : List Nat) (tt : LT) (tk tv : LE) (Fin : List (T × T) → Gp → Prop) (S : S2) : List T → List (T × T) → Gp → Prop
  | [], acc, G => Keep G ∧ Fin acc G
  | t :: r, acc, G => Keep G ∧ match f t (wipe2 S vs) with
    | some S2 => tt S2 G fun b G1 => if b = true then tk S2 G1 fun y G2 => tv S2 G2 fun z G3 => acc.length < sizeLine ∧ (keyT y).isSome = true ∧ ∃ G0, Sub G0 G3 ∧ dcW Keep f vs tt tk tv Fin S r (dput acc y z) G0 else ∃ G0, Sub G0 G1 ∧ dcW Keep f vs tt tk tv Fin S r acc G0
    | none => False
def lDc (li : LI) (f : T → S2 → Option S2) (vs : List Nat) (tt : LT) (tk tv : LE) : LE := fun S G Φ => li S G fun items Keep G1 =>
  dcW Keep f vs tt tk tv (fun acc G' => ∀ p, G' p = none → Φ (.ref p) (gup G' p (.dic acc))) S items [] G1
def lYes : LT := fun _ G Φ => Φ true G
def Ets (en : En) (X : Cx) (ifs : List Expr) (t : LT) : Prop := PTs X ifs (lowT X.K en t)

section
variable {X : Cx} {a b c e o i elt tg iter : Expr} {es : List Expr} {st : Stmt} {ss ss2 : List Stmt} {la lb lo li lk lv : LE} {l : LA} {tl : LT} {pos p2 : Pos} {ls ms : LS} {w : LI} {f : T → S2 → Option S2} {vs : List Nat}
theorem PI.weak {t t' : TI} (h : PI X tg e t) (w : ∀ σ H Q, t' σ H Q → t σ H Q) : PI X tg e t' := ⟨fun pins s σ H Q I q => h.run pins s σ H Q I (w σ H Q q)⟩
theorem PTs.weak {ifs : List Expr} {t t' : TT} (h : PTs X ifs t) (w : ∀ σ H Q, t' σ H Q → t σ H Q) : PTs X ifs t' := ⟨fun pins s σ H Q I q => h.run pins s σ H Q I (w σ H Q q)⟩
theorem ts_nil : Ets en X [] lYes := PTs.weak pts_nil fun σ H Q ⟨S, G, Φ, s, g, q, k⟩ => k true G H q g (Step.refl H G)
theorem ts_one (h : Et en X c tl) : Ets en X [c] tl := pts_one h

theorem s_while (hp : PassesOwn (model X.prog X.w) X.A X.env X.xe) (hc : Et en X c tl) (hb : Ess en X ss ls) : Es en X (.While c ss [] pos) (lWhile tl ls) := by
  refine PS.weak (ps_while hp hc hb) fun D σ H ⟨S, G, L, s, g, ⟨W, ⟨m0, w0⟩, hW⟩, ends⟩ => ?_
  refine ⟨fun m σ' H' => ∃ S' G', SRel X.K H' σ' S' ∧ HRel X.K en H' G' ∧ Step H G H' G' ∧ W m S' G', ⟨m0, S, G, s, g, Step.refl H G, w0⟩, ?_⟩
  rintro m σ1 H1 ⟨S1, G1, s1, g1, t1, w1⟩
  refine ⟨S1, G1, _, s1, g1, hW m S1 G1 w1, fun k G2 H2 q2 g2 t2 => ?_⟩
  obtain ⟨G2', sb2, q2⟩ := q2
  replace g2 := g2.sub sb2
  replace t2 := t2.sub sb2
  clear sb2 G2
  revert G2'
  intro G2 q2 g2 t2
  cases k with
  | true =>
    refine ⟨fun σ' H' => ∃ m', m' < m ∧ ∃ S' G', SRel X.K H' σ' S' ∧ HRel X.K en H' G' ∧ Step H G H' G' ∧ W m' S' G', fun σ' H' ⟨m', hm, r⟩ => ⟨m', hm, r⟩, ?_⟩
    have t12 := t1.trans t2
    refine ⟨S1, G2, _, s1.stay (t2.stay g1), g2, q2, ⟨fun S3 G3 σ3 H3 q3 s3 g3 t3 => ?_, (ends.step t12).rt, fun S3 G3 σ3 H3 q3 s3 g3 t3 => (ends.step t12).nx S3 G3 σ3 H3 q3 s3 g3 t3, fun S3 G3 σ3 H3 q3 s3 g3 t3 => ?_⟩⟩
    · obtain ⟨m', G0, hm, sb, w3⟩ := q3
      exact ⟨m', hm, S3, G0, s3, g3.sub sb, (t12.trans t3).sub sb, w3⟩
    · obtain ⟨m', G0, hm, sb, w3⟩ := q3
      exact ⟨m', hm, S3, G0, s3, g3.sub sb, (t12.trans t3).sub sb, w3⟩
  | false => exact ends.nx S1 G2 σ1 H2 q2 (s1.stay (t2.stay g1)) g2 (t1.trans t2)
theorem s_for (hp : PassesOwn (model X.prog X.w) X.A X.env X.xe) (hc : X.calm = true) (hi : Ei en X tg iter w) (hg : Eg X tg f vs) (hb : Ess en X ss ls)
    (hs : ∀ x, foldedSetIterable iter X.env x = pure x := by intro _; rfl) : Es en X (.For tg iter ss [] pos) (lFor w f ls) := by
  refine PS.weak (ps_for hp hc hi hg hb hs) fun D σ H ⟨S, G, L, s, g, q, ends⟩ => ?_
  refine ⟨S, G, _, s, g, q, fun items Keep G1 H1 J kh q1 g1 s1 ok kh1 => ?_⟩
  refine ⟨fun i m σ' H' => m = items.length - i ∧ i ≤ items.length ∧ kh H' ∧ ∃ S' G', SRel X.K H' σ' S' ∧ HRel X.K en H' G' ∧ Step H G H' G' ∧ forW L f ls Keep (items.drop i) S' G',
    ⟨items.length, rfl, Nat.zero_le _, kh1, S, G1, s.stay (s1.stay g), g1, s1, q1⟩, ?_⟩
  rintro i m σ2 H2 ⟨rfl, hi, kh2, S2, G2, s2, g2, t2, q2⟩
  by_cases hlt : i < items.length
  · rw [List.drop_eq_getElem_cons hlt] at q2
    obtain ⟨kp, q2⟩ := q2
    refine .inr ⟨ok.go i H2 G2 g2 kp kh2 hlt, fun σ' H' => ∃ m', m' < items.length - i ∧ (m' = items.length - (i + 1) ∧ i + 1 ≤ items.length ∧ kh H' ∧ ∃ S' G', SRel X.K H' σ' S' ∧ HRel X.K en H' G' ∧ Step H G H' G' ∧ forW L f ls Keep (items.drop (i + 1)) S' G'), fun σ' H' h => h, fun x H3 y => ?_⟩
    obtain ⟨t, et, rt, g3, t3⟩ := ok.yld i H2 G2 x H3 g2 kp kh2 y hlt
    rw [List.getElem?_eq_getElem hlt] at et
    cases et
    split at q2
    · rename_i S3 e3
      have st := t3.stay g2
      refine ⟨_, S2, S3, rt, s2.stay st, e3, fun σ3 s3 _ => ?_⟩
      have t23 := t2.trans t3
      have again : ∀ S4 G4 σ4 H4, (∃ G0, Sub G0 G4 ∧ forW L f ls Keep (items.drop (i + 1)) S4 G0) → SRel X.K H4 σ4 S4 → HRel X.K en H4 G4 → Step H3 G2 H4 G4 →
          ∃ m', m' < items.length - i ∧ (m' = items.length - (i + 1) ∧ i + 1 ≤ items.length ∧ kh H4 ∧ ∃ S' G', SRel X.K H4 σ4 S' ∧ HRel X.K en H4 G' ∧ Step H G H4 G' ∧ forW L f ls Keep (items.drop (i + 1)) S' G') :=
        fun S4 G4 σ4 H4 ⟨G0, sb, q4⟩ s4 g4 t4 => ⟨_, by omega, rfl, hlt, ok.stab _ _ (t4.stay g3) (ok.stab _ _ st kh2), S4, G0, s4, g4.sub sb, (t23.trans t4).sub sb, q4⟩
      exact ⟨S3, G2, _, s3, g3, q2, ⟨again, (ends.step t23).rt, fun S4 G4 σ4 H4 q4 s4 g4 t4 => (ends.step t23).nx S4 G4 σ4 H4 q4 s4 g4 t4, again⟩⟩
    · exact q2.elim
  · have e : i = items.length := by omega
    subst e
    rw [List.drop_length] at q2
    exact .inl ⟨ok.stop _ H2 G2 g2 q2.1 kh2 (Nat.le_refl _), ends.nx S2 G2 σ2 H2 q2.2 s2 g2 t2⟩
/-- the reading of a list comprehension's loop -/
theorem low_lc {K : Fr0} {tt : LT} {te : LE} : ∀ σ H Q, low K en (lLc w f vs tt te) σ H Q → tLc (lowI K en w) (lowN K f vs) (lowT K en tt) (low K en te) vs σ H Q := by
  intro σ H Q ⟨S, G, Φ, s, g, q, k⟩
  refine ⟨S, G, _, s, g, q, fun items Keep G1 H1 J kh q1 g1 s1 ok kh1 D hD => ?_⟩
  have hD0 : H D = none := by
    cases e : H D with
    | none => rfl
    | some u =>
      obtain ⟨u', e'⟩ := s1.al D u e
      rw [hD] at e'
      cases e'
  have hen : ∀ e ∈ en, e.1 D = none := by
    intro e he
    cases z : e.1 D with
    | none => rfl
    | some u =>
      obtain ⟨u', e'⟩ := (g.hist e he).al D u z
      rw [hD0] at e'
      cases e'
  obtain ⟨g1', t1', st1'⟩ := g1.laid (ho := .lst []) hD
  have no1 : ¬ Own (L2.upd H1 D (.lst [])) G1 D := fun z => not_own_new g1 hD ((own_upd (not_own_new g1 hD)).mp z)
  refine ⟨fun i m H' => m = items.length - i ∧ i ≤ items.length ∧ kh H' ∧ ∃ acc accT G', H' D = some (.lst acc) ∧ RelL K H' acc accT ∧ HRel K en H' G' ∧ ¬ Own H' G' D ∧ Step H G H' G' ∧
      lcW Keep f vs tt te (fun acc G' => ∀ p, G' p = none → Φ (.ref p) (gup G' p (.lst acc))) S (items.drop i) accT G',
    ⟨items.length, rfl, Nat.zero_le _, ok.stab _ _ st1' kh1, [], [], G1, upd_same, .nil, g1', no1, s1.trans t1', q1⟩, ?_⟩
  rintro i m H2 ⟨rfl, hi, kh2, acc, accT, G2, hacc, racc, g2, no2, t2, q2⟩
  by_cases hlt : i < items.length
  · rw [List.drop_eq_getElem_cons hlt] at q2
    obtain ⟨kp, q2⟩ := q2
    refine .inr ⟨ok.go i H2 G2 g2 kp kh2 hlt, fun H' => ∃ m', m' < items.length - i ∧ (m' = items.length - (i + 1) ∧ i + 1 ≤ items.length ∧ kh H' ∧ ∃ acc accT G', H' D = some (.lst acc) ∧ RelL K H' acc accT ∧ HRel K en H' G' ∧ ¬ Own H' G' D ∧ Step H G H' G' ∧
      lcW Keep f vs tt te (fun acc G' => ∀ p, G' p = none → Φ (.ref p) (gup G' p (.lst acc))) S (items.drop (i + 1)) accT G'), fun H' h => h, fun x H3 y => ?_⟩
    obtain ⟨t, et, rt, g3, t3⟩ := ok.yld i H2 G2 x H3 g2 kp kh2 y hlt
    rw [List.getElem?_eq_getElem hlt] at et
    cases et
    obtain ⟨hacc3, no3⟩ := t3.fr D _ hacc no2
    have st3 := t3.stay g2
    have t23 := t2.trans t3
    split at q2
    · rename_i S3 e3
      refine ⟨_, wipe2 S vs, S3, rt, ((s.stay (t23.stay g)).wipe vs), e3, fun σ3 s3 hk3 => ⟨?_, ?_⟩⟩
      · have e1 := hk3 vs (fun _ h => h)
        rw [e1]
        exact wipe_wipe σ vs
      · refine ⟨S3, G2, _, s3, g3, q2, fun bb G4 H4 q4 g4 t4 => ?_⟩
        obtain ⟨hacc4, no4⟩ := t4.fr D _ hacc3 no3
        have st4 := t4.stay g3
        have t24 := t23.trans t4
        have kh4 := ok.stab _ _ st4 (ok.stab _ _ st3 kh2)
        cases bb with
        | true =>
          have q4 : te S3 G4 fun y G2 => accT.length < sizeLine ∧ ∃ G0, Sub G0 G2 ∧ lcW Keep f vs tt te (fun acc G' => ∀ p, G' p = none → Φ (.ref p) (gup G' p (.lst acc))) S (items.drop (i + 1)) (accT ++ [y]) G0 := q4
          refine ⟨S3, G4, _, s3.stay st4, g4, q4, fun ty G5 vy H5 q5 r5 g5 t5 => ?_⟩
          obtain ⟨hacc5, no5⟩ := t5.fr D _ hacc4 no4
          have st5 := t5.stay g4
          have racc5 := ((racc.stay st3).stay st4).stay st5
          obtain ⟨g6, st6⟩ := g5.under (ho := .lst (acc ++ [vy])) no5 hacc5 rfl hen
          obtain ⟨q5a, G0, sb, q5⟩ := q5
          refine ⟨acc, hacc5, by rw [racc.length]; exact q5a, _, by omega, rfl, hlt, ok.stab _ _ st6 (ok.stab _ _ st5 kh4), acc ++ [vy], accT ++ [ty], G0, upd_same, (racc5.app (.cons r5 .nil)).stay st6, g6.sub sb, fun z => no5 ((own_upd no5).mp (own_sub sb z)), ((t24.trans t5).under hD0 no5).sub sb, q5⟩
        | false =>
          obtain ⟨G0, sb, q4⟩ := (show ∃ G0, Sub G0 G4 ∧ lcW Keep f vs tt te (fun acc G' => ∀ p, G' p = none → Φ (.ref p) (gup G' p (.lst acc))) S (items.drop (i + 1)) accT G0 from q4)
          exact ⟨_, by omega, rfl, hlt, kh4, acc, accT, G0, hacc4, (racc.stay st3).stay st4, g4.sub sb, fun z => no4 (own_sub sb z), t24.sub sb, q4⟩
    · exact q2.elim
  · have e : i = items.length := by omega
    subst e
    rw [List.drop_length] at q2
    have gD : G2 D = none := by
      cases z : G2 D with
      | none => rfl
      | some u => exact absurd (.inl ⟨u, z⟩) no2
    refine .inl ⟨ok.stop _ H2 G2 g2 q2.1 kh2 (Nat.le_refl _), k _ _ _ _ (q2.2 D gD) (.ref D) (g2.adopt no2 (fun n z => by cases z) ⟨acc, hacc, racc⟩ hen) (t2.adopt hD0 (fun n z => by cases z))⟩
theorem low_dc {K : Fr0} {tt : LT} {tk tv : LE} : ∀ σ H Q, low K en (lDc w f vs tt tk tv) σ H Q → tDc (lowI K en w) (lowN K f vs) (lowT K en tt) (low K en tk) (low K en tv) vs σ H Q := by
  intro σ H Q ⟨S, G, Φ, s, g, q, k⟩
  refine ⟨S, G, _, s, g, q, fun items Keep G1 H1 J kh q1 g1 s1 ok kh1 D hD => ?_⟩
  have hD0 : H D = none := by
    cases e : H D with
    | none => rfl
    | some u =>
      obtain ⟨u', e'⟩ := s1.al D u e
      rw [hD] at e'
      cases e'
  have hen : ∀ e ∈ en, e.1 D = none := by
    intro e he
    cases z : e.1 D with
    | none => rfl
    | some u =>
      obtain ⟨u', e'⟩ := (g.hist e he).al D u z
      rw [hD0] at e'
      cases e'
  obtain ⟨g1', t1', st1'⟩ := g1.laid (ho := .dK []) hD
  have no1 : ¬ Own (L2.upd H1 D (.dK [])) G1 D := fun z => not_own_new g1 hD ((own_upd (not_own_new g1 hD)).mp z)
  refine ⟨fun i m H' => m = items.length - i ∧ i ≤ items.length ∧ kh H' ∧ ∃ acc accT G', H' D = some (.dK acc) ∧ RelD K H' acc accT ∧ HRel K en H' G' ∧ ¬ Own H' G' D ∧ Step H G H' G' ∧
      dcW Keep f vs tt tk tv (fun acc G' => ∀ p, G' p = none → Φ (.ref p) (gup G' p (.dic acc))) S (items.drop i) accT G',
    ⟨items.length, rfl, Nat.zero_le _, ok.stab _ _ st1' kh1, [], [], G1, upd_same, .nil, g1', no1, s1.trans t1', q1⟩, ?_⟩
  rintro i m H2 ⟨rfl, hi, kh2, acc, accT, G2, hacc, racc, g2, no2, t2, q2⟩
  by_cases hlt : i < items.length
  · rw [List.drop_eq_getElem_cons hlt] at q2
    obtain ⟨kp, q2⟩ := q2
    refine .inr ⟨ok.go i H2 G2 g2 kp kh2 hlt, fun H' => ∃ m', m' < items.length - i ∧ (m' = items.length - (i + 1) ∧ i + 1 ≤ items.length ∧ kh H' ∧ ∃ acc accT G', H' D = some (.dK acc) ∧ RelD K H' acc accT ∧ HRel K en H' G' ∧ ¬ Own H' G' D ∧ Step H G H' G' ∧
      dcW Keep f vs tt tk tv (fun acc G' => ∀ p, G' p = none → Φ (.ref p) (gup G' p (.dic acc))) S (items.drop (i + 1)) accT G'), fun H' h => h, fun x H3 y => ?_⟩
    obtain ⟨t, et, rt, g3, t3⟩ := ok.yld i H2 G2 x H3 g2 kp kh2 y hlt
    rw [List.getElem?_eq_getElem hlt] at et
    cases et
    obtain ⟨hacc3, no3⟩ := t3.fr D _ hacc no2
    have st3 := t3.stay g2
    have t23 := t2.trans t3
    split at q2
    · rename_i S3 e3
      refine ⟨_, wipe2 S vs, S3, rt, ((s.stay (t23.stay g)).wipe vs), e3, fun σ3 s3 hk3 => ⟨?_, ?_⟩⟩
      · have e1 := hk3 vs (fun _ h => h)
        rw [e1]
        exact wipe_wipe σ vs
      · refine ⟨S3, G2, _, s3, g3, q2, fun bb G4 H4 q4 g4 t4 => ?_⟩
        obtain ⟨hacc4, no4⟩ := t4.fr D _ hacc3 no3
        have st4 := t4.stay g3
        have t24 := t23.trans t4
        have kh4 := ok.stab _ _ st4 (ok.stab _ _ st3 kh2)
        cases bb with
        | true =>
          have q4 : tk S3 G4 fun y G2 => tv S3 G2 fun z G3 => accT.length < sizeLine ∧ (keyT y).isSome = true ∧ ∃ G0, Sub G0 G3 ∧ dcW Keep f vs tt tk tv (fun acc G' => ∀ p, G' p = none → Φ (.ref p) (gup G' p (.dic acc))) S (items.drop (i + 1)) (dput accT y z) G0 := q4
          refine ⟨S3, G4, _, s3.stay st4, g4, q4, fun ty G5 vy H5 q5 r5 g5 t5 => ?_⟩
          obtain ⟨hacc5, no5⟩ := t5.fr D _ hacc4 no4
          have st5 := t5.stay g4
          refine ⟨S3, G5, _, (s3.stay st4).stay st5, g5, q5, fun tz G6 vz H6 q6 r6 g6 t6 => ?_⟩
          obtain ⟨hacc6, no6⟩ := t6.fr D _ hacc5 no5
          have st6 := t6.stay g5
          have racc6 := (((racc.stay st3).stay st4).stay st5).stay st6
          obtain ⟨hl, hk, G0, sb, q6⟩ := q6
          obtain ⟨k0, ek⟩ := Option.isSome_iff_exists.mp hk
          have eu := keyT_kT ek
          subst eu
          obtain ⟨g7, st7⟩ := g6.under (ho := .dK (putK acc k0 vz)) no6 hacc6 rfl hen
          refine ⟨acc, k0, r5.key, hacc6, by rw [racc.length]; exact hl, _, by omega, rfl, hlt, ok.stab _ _ st7 (ok.stab _ _ st6 (ok.stab _ _ st5 kh4)), putK acc k0 vz, dput accT (kT k0) tz, G0, upd_same, (racc6.put r6).stay st7, g7.sub sb, fun z => no6 ((own_upd no6).mp (own_sub sb z)), (((t24.trans t5).trans t6).under hD0 no6).sub sb, q6⟩
        | false =>
          obtain ⟨G0, sb, q4⟩ := (show ∃ G0, Sub G0 G4 ∧ dcW Keep f vs tt tk tv (fun acc G' => ∀ p, G' p = none → Φ (.ref p) (gup G' p (.dic acc))) S (items.drop (i + 1)) accT G0 from q4)
          exact ⟨_, by omega, rfl, hlt, kh4, acc, accT, G0, hacc4, (racc.stay st3).stay st4, g4.sub sb, fun z => no4 (own_sub sb z), t24.sub sb, q4⟩
    · exact q2.elim
  · have e : i = items.length := by omega
    subst e
    rw [List.drop_length] at q2
    have gD : G2 D = none := by
      cases z : G2 D with
      | none => rfl
      | some u => exact absurd (.inl ⟨u, z⟩) no2
    refine .inl ⟨ok.stop _ H2 G2 g2 q2.1 kh2 (Nat.le_refl _), k _ _ _ _ (q2.2 D gD) (.ref D) (g2.adopt no2 (fun n z => by cases z) ⟨acc, hacc, racc⟩ hen) (t2.adopt hD0 (fun n z => by cases z))⟩
end
end Dv
namespace Dv
open PySem L2 PyProof.Rows RZ
section
variable {X : Cx} {a b c e o i elt tg iter : Expr} {es : List Expr} {st : Stmt} {la lb : LE} {l : LA} {pos p p2 apos cpos tpos : Pos} {ls : LS} {elts : List Expr} {kk : Nat}

/-! ### a value that is walked -/
abbrev RIT := T → Gp → (List T → (Gp → Prop) → Gp → Prop) → Prop
def itT : RIT
  | .tup ts, G, Ψ => Ψ ts (fun _ => True) G
  | .str z, G, Ψ => Ψ (z.cps.toList.map fun c => T.str ⟨#[c]⟩) (fun _ => True) G
  | .ref a, G, Ψ => match G a with
    | some (.lst xs) => Ψ xs (fun G' => G' a = some (.lst xs)) G
    | some (.fdic ob raw kvs) => Ψ (kvs.map (·.1)) (fun G' => G' a = some (.fdic ob raw kvs)) G
    | _ => False
  | _, _, _ => False
def lIt (la : LE) : LI := fun S G Ψ => la S G fun t G1 => itT t G1 Ψ
theorem ok_list {K : Fr0} {en : En} {a : Addr} {xs : List T} : ItOk K en (Itl K a) xs (fun G' => G' a = some (.lst xs)) (fun _ => True) where
  stab := fun _ _ _ h => h
  go := fun i H G g kp _ hi => by
    obtain ⟨vs, h1, r⟩ := g.obj a _ kp
    obtain ⟨v, h2, _⟩ := r.get (List.getElem?_eq_getElem hi)
    exact ⟨vs, v, SqL.of h1, h2⟩
  stop := fun i H G g kp _ hi => by
    obtain ⟨vs, h1, r⟩ := g.obj a _ kp
    exact ⟨vs, SqL.of h1, by rw [r.length]; exact hi⟩
  yld := fun i H G x H' g kp _ y hi => by
    obtain ⟨e, y⟩ := y
    subst e
    obtain ⟨vs, h1, r⟩ := g.obj a _ kp
    obtain ⟨t, h2, h3⟩ := r.getV (y vs (SqL.of h1))
    exact ⟨t, h2, h3, g, Step.refl _ _⟩
theorem ok_tup {K : Fr0} {en : En} {a : Addr} {vs : List V} {xs : List T} : ItOk K en (Itt K a) xs (fun _ => True) (fun H => SqT K H a vs ∧ RelL K H vs xs) where
  stab := fun H H' st h => ⟨st.1 _ _ h.1, h.2.stay st⟩
  go := fun i H G g _ kh hi => by
    obtain ⟨h1, r⟩ := kh
    obtain ⟨v, h2, _⟩ := r.get (List.getElem?_eq_getElem hi)
    exact ⟨vs, v, h1, h2⟩
  stop := fun i H G g _ kh hi => ⟨vs, kh.1, by rw [kh.2.length]; exact hi⟩
  yld := fun i H G x H' g _ kh y hi => by
    obtain ⟨e, y⟩ := y
    subst e
    obtain ⟨t, h2, h3⟩ := kh.2.getV (y vs kh.1)
    exact ⟨t, h2, h3, g, Step.refl _ _⟩
theorem ok_str {K : Fr0} {en : En} {z : Str} : ItOk K en (Its z) (z.cps.toList.map fun c => T.str ⟨#[c]⟩) (fun _ => True) (fun _ => True) where
  stab := fun _ _ _ h => h
  go := fun i H G g _ _ hi => by
    show i < z.cps.size
    simpa using hi
  stop := fun i H G g _ _ hi => by
    show z.cps.size ≤ i
    simpa using hi
  yld := fun i H G x H' g _ _ y hi => by
    obtain ⟨e, c, h, ex⟩ := y
    subst e ex
    exact ⟨.str ⟨#[c]⟩, by rw [List.getElem?_map, Array.getElem?_toList, h]; rfl, .str _, g, Step.refl _ _⟩
theorem RelD.keys {K : Fr0} {H : Hp} : ∀ {vs : List (Key × V)} {ts : List (T × T)} {i : Nat} {k : Key} {v : V}, RelD K H vs ts → vs[i]? = some (k, v) → (ts.map (·.1))[i]? = some (kT k)
  | _, _, i, k, v, .nil, e => by simp at e
  | _, _, 0, k, v, .cons _ _, e => by
    simp at e
    obtain ⟨e1, _⟩ := e
    subst e1
    simp
  | _, _, i + 1, k, v, .cons _ r, e => by
    have := RelD.keys (i := i) (k := k) (v := v) r (by simpa using e)
    simpa using this
theorem kT_rel {K : Fr0} {H : Hp} : ∀ k : Key, Rel K H (kV k) (kT k)
  | .inl i => .int i
  | .inr x => .str x
theorem ok_keys {K : Fr0} {en : En} {d : Addr} {ob : Obj} {raw : List (Key × V)} {kvs : List (T × T)} : ItOk K en (Itk d ob raw) (kvs.map (·.1)) (fun G' => G' d = some (.fdic ob raw kvs)) (fun _ => True) where
  stab := fun _ _ _ h => h
  go := fun i H G g kp _ hi => by
    obtain ⟨h1, r⟩ := g.obj d _ kp
    exact ⟨h1, by rw [r.length]; simpa using hi⟩
  stop := fun i H G g kp _ hi => by
    obtain ⟨h1, r⟩ := g.obj d _ kp
    exact ⟨h1, by rw [r.length]; simpa using hi⟩
  yld := fun i H G x H' g kp _ y hi => by
    obtain ⟨e, k, v, h, ex⟩ := y
    subst e ex
    obtain ⟨h1, r⟩ := g.obj d _ kp
    exact ⟨kT k, r.keys h, kT_rel k, g, Step.refl _ _⟩
theorem iter_val {pins : List (Addr × Obj)} {s : Shared} {σ : L2.St} {H : Hp} {x : V} {v : Value} {R : It → Hp → Prop} {t : T} {G : Gp} {en : En} {Ψ : List T → (Gp → Prop) → Gp → Prop} (I : Inv X pins σ H s) (rv : RelV x v) (rt : Rel X.K H x t) (g : HRel X.K en H G) (q : itT t G Ψ)
    (k : ∀ items Keep J kh, Ψ items Keep G → ItOk X.K en J items Keep kh → kh H → R J H) : wpAny (model X.prog X.w) X.A (pyIter v) (PIE X pins σ tg R) X.xe s := by
  cases rt with
  | @tup pp xs ts hs rs =>
    cases rv
    obtain ⟨its, r1, pt, hz⟩ := I.tuple hs
    refine wpAny_pyIter_tuple (show s.heap.IsTuple pp its.toArray from pt) ?_
    exact pi_one (tk := s.toks) I _ (turn_tuple pp _) ⟨_, Heap.get?_push_size _ rfl, rfl, rfl⟩ (k _ _ _ _ q ok_tup ⟨hs, rs⟩)
  | str z =>
    obtain ⟨tk, rfl⟩ := rv
    have q' := k _ _ _ _ q ok_str True.intro
    cases ha : z.cps.all (· < 128)
    · exact wpAny_pyIter_wide ha (pi_one (tk := s.toks) I _ (turn_str _ z tk "str_iterator" (.inr rfl)) ⟨_, Heap.get?_push_size _ rfl, rfl, rfl⟩ q')
    · exact wpAny_pyIter_ascii ha (pi_one (tk := s.toks) I _ (turn_str _ z tk "str_ascii_iterator" (.inl rfl)) ⟨_, Heap.get?_push_size _ rfl, rfl, rfl⟩ q')
  | ref p =>
    cases rv
    simp only [itT] at q
    split at q
    · rename_i xs e
      obtain ⟨vs, h1, r1⟩ := g.obj _ _ e
      obtain ⟨its, r2, pl, hz⟩ := I.list (SqL.of h1)
      refine wpAny_pyIter_list pl.isList ?_
      exact pi_one (tk := s.toks) I _ (turn_list p _) ⟨_, Heap.get?_push_size _ rfl, rfl, rfl⟩ (k _ _ _ _ q ok_list True.intro)
    · rename_i ob raw kvs e
      obtain ⟨h1, r1⟩ := g.obj _ _ e
      obtain ⟨hs, hgd, hx, es, ep, vs, hdt, hsz, kv, hm⟩ := I.frzK h1
      refine iter_keys hs hgd hx hdt (pi_one (tk := s.toks) I _ (turn_keys _ hdt) ⟨_, Heap.get?_push_size _ rfl, rfl, ?_⟩ (k _ _ _ _ q ok_keys True.intro))
      rw [hsz] <;> rfl
    · exact q.elim
  | _ => exact q.elim
theorem i_val (h : E en X e la) : Ei en X tg e (lIt la) := by
  refine ⟨fun pins s σ H R I ⟨S, G, Ψ, sr, g, q, k⟩ => ?_⟩
  refine thn (h.run pins s σ H (fun v H' => ∃ t G', itT t G' Ψ ∧ Rel X.K H' v t ∧ HRel X.K en H' G' ∧ Step H G H' G') I ⟨S, G, _, sr, g, q, fun t G' v H' a b c d => ⟨t, G', a, b, c, d⟩⟩) fun v s1 ⟨x, H1, I1, r1, t, G1, q1, rt, g1, s1'⟩ => ?_
  exact iter_val I1 r1 rt g1 q1 fun items Keep J kh a b c => k items Keep G1 H1 J kh a g1 s1' b c

/-! ### ranges -/
def lRg1 (l : LA) : LI := fun S G Ψ => l S G fun ts G1 => match ts with
  | [.int j] => (-(2 ^ 62) ≤ j ∧ j < 2 ^ 62) ∧ Ψ ((List.range j.toNat).map fun (i : Nat) => T.int (i : Int)) (fun _ => True) G1
  | _ => False
def lRg2 (l : LA) : LI := fun S G Ψ => l S G fun ts G1 => match ts with
  | [.int lo, .int hi] => (-(2 ^ 62) ≤ lo ∧ lo < 2 ^ 62 ∧ -(2 ^ 62) ≤ hi ∧ hi < 2 ^ 62) ∧ Ψ ((List.range (hi - lo).toNat).map fun (i : Nat) => T.int (lo + (i : Int))) (fun _ => True) G1
  | _ => False
theorem ok_rng {K : Fr0} {en : En} {lo : Int} {n : Nat} : ItOk K en (Itr lo n) ((List.range n).map fun (i : Nat) => T.int (lo + (i : Int))) (fun _ => True) (fun _ => True) where
  stab := fun _ _ _ h => h
  go := fun i H G g _ _ hi => by
    show i < n
    simpa using hi
  stop := fun i H G g _ _ hi => by
    show n ≤ i
    simpa using hi
  yld := fun i H G x H' g _ _ y hi => by
    obtain ⟨e, ex⟩ := y
    subst e ex
    refine ⟨.int (lo + i), ?_, .int _, g, Step.refl _ _⟩
    have hi' : i < n := by simpa using hi
    rw [List.getElem?_map, List.getElem?_range hi']
    rfl
theorem ok_rng0 {K : Fr0} {en : En} {n : Nat} : ItOk K en (Itr 0 n) ((List.range n).map fun (i : Nat) => T.int (i : Int)) (fun _ => True) (fun _ => True) := by
  have h := ok_rng (K := K) (en := en) (lo := 0) (n := n)
  have e : (fun (i : Nat) => T.int (0 + (i : Int))) = fun (i : Nat) => T.int (i : Int) := by
    funext i
    rw [Int.zero_add]
  rw [e] at h
  exact h
theorem i_rg1 (hg : Gl X "range") (hm : X.mg "range" = none) (ha : Ea en X [a] l) (hs : starEach [a] X.env = [(false, eval a X.env)] := by rfl) : Ei en X tg (.Call (.Name "range" p) [a] [] pos) (lRg1 l) := by
  refine PI.weak (pi_range1 hg hm ha hs) fun σ H R ⟨S, G, Ψ, s, g, q, k⟩ => ?_
  refine ⟨S, G, _, s, g, q, fun ts G1 vs H1 q1 r1 g1 s1 => ?_⟩
  split at q1
  · rename_i j
    cases r1 with
    | cons h1 h2 =>
      cases h1
      cases h2
      exact ⟨j, rfl, q1.1.1, q1.1.2, k _ _ _ _ _ _ q1.2 g1 s1 ok_rng0 True.intro⟩
  · exact q1.elim
theorem i_rg2 (hg : Gl X "range") (hm : X.mg "range" = none) (ha : Ea en X [a, b] l) (hs : starEach [a, b] X.env = [(false, eval a X.env), (false, eval b X.env)] := by rfl) (hs2 : starEach [b] X.env = [(false, eval b X.env)] := by rfl) :
    Ei en X tg (.Call (.Name "range" p) [a, b] [] pos) (lRg2 l) := by
  refine PI.weak (pi_range2 hg hm ha hs hs2) fun σ H R ⟨S, G, Ψ, s, g, q, k⟩ => ?_
  refine ⟨S, G, _, s, g, q, fun ts G1 vs H1 q1 r1 g1 s1 => ?_⟩
  split at q1
  · rename_i lo hi
    cases r1 with
    | cons h1 h2 =>
      cases h1
      cases h2 with
      | cons h2 h3 =>
        cases h2
        cases h3
        exact ⟨lo, hi, rfl, q1.1, k _ _ _ _ _ _ q1.2 g1 s1 ok_rng True.intro⟩
  · exact q1.elim

/-! ### enumerate, zip, of lists -/
def enumT (xs : List T) : List T := xs.zipIdx.map fun q => T.tup [.int (q.2 : Int), q.1]
def zipT (xs ys : List T) : List T := (xs.zip ys).map fun q => T.tup [q.1, q.2]
def lEnum (l : LA) : LI := fun S G Ψ => l S G fun ts G1 => match ts with
  | [.ref a] => (match G1 a with
    | some (.lst xs) => Ψ (enumT xs) (fun G' => G' a = some (.lst xs)) G1
    | _ => False)
  | _ => False
theorem ok_enum {K : Fr0} {en : En} {a : Addr} {xs : List T} : ItOk K en (Ite K a) (enumT xs) (fun G' => G' a = some (.lst xs)) (fun _ => True) where
  stab := fun _ _ _ h => h
  go := fun i H G g kp _ hi => by
    obtain ⟨vs, h1, r⟩ := g.obj a _ kp
    have hi' : i < xs.length := by simpa [enumT] using hi
    obtain ⟨v, h2, _⟩ := r.get (List.getElem?_eq_getElem hi')
    exact ⟨vs, v, SqL.of h1, h2⟩
  stop := fun i H G g kp _ hi => by
    obtain ⟨vs, h1, r⟩ := g.obj a _ kp
    exact ⟨vs, SqL.of h1, by rw [r.length]; simpa [enumT] using hi⟩
  yld := fun i H G x H' g kp _ y hi => by
    obtain ⟨p, v, ex, hp, eH, y⟩ := y
    subst ex eH
    obtain ⟨vs, h1, r⟩ := g.obj a _ kp
    obtain ⟨t, h2, h3⟩ := r.getV (y vs (SqL.of h1))
    obtain ⟨r2, g2, s2⟩ := tup_laid g hp (.cons (.int (i : Int)) (.cons h3 .nil))
    refine ⟨_, ?_, r2, g2, s2⟩
    unfold enumT
    rw [List.getElem?_map, List.getElem?_zipIdx, h2]
    simp
theorem i_enum (hg : Gl X "enumerate") (hm : X.mg "enumerate" = none) (ha : Ea en X [e] l) (hs : starEach [e] X.env = [(false, eval e X.env)] := by rfl) : Ei en X (.Tuple elts kk tpos) (.Call (.Name "enumerate" p) [e] [] pos) (lEnum l) := by
  refine PI.weak (pi_enum hg hm ha hs) fun σ H R ⟨S, G, Ψ, s, g, q, k⟩ => ?_
  refine ⟨S, G, _, s, g, q, fun ts G1 vs H1 q1 r1 g1 s1 => ?_⟩
  split at q1
  · rename_i a
    cases r1 with
    | cons h1 h2 =>
      cases h1
      cases h2
      split at q1
      · rename_i xs e
        obtain ⟨vs, h1, r⟩ := g1.obj _ _ e
        exact ⟨a, vs, rfl, SqL.of h1, k _ _ _ _ _ _ q1 g1 s1 ok_enum True.intro⟩
      · exact q1.elim
  · exact q1.elim
def lZip (l : LA) : LI := fun S G Ψ => l S G fun ts G1 => match ts with
  | [.ref a, .ref b] => (match G1 a, G1 b with
    | some (.lst xs), some (.lst ys) => Ψ (zipT xs ys) (fun G' => G' a = some (.lst xs) ∧ G' b = some (.lst ys)) G1
    | _, _ => False)
  | [.tup xs, .tup ys] => Ψ (zipT xs ys) (fun _ => True) G1
  | _ => False
theorem zipT_at {xs ys : List T} {i : Nat} {x y : T} (h1 : xs[i]? = some x) (h2 : ys[i]? = some y) : (zipT xs ys)[i]? = some (.tup [x, y]) := by
  unfold zipT
  rw [List.getElem?_map]
  have : (xs.zip ys)[i]? = some (x, y) := by rw [List.getElem?_zip_eq_some]; exact ⟨h1, h2⟩
  rw [this]
  rfl
theorem ok_zip {K : Fr0} {en : En} {a b : Addr} {xs ys : List T} : ItOk K en (Itz K a b) (zipT xs ys) (fun G' => G' a = some (.lst xs) ∧ G' b = some (.lst ys)) (fun _ => True) where
  stab := fun _ _ _ h => h
  go := fun i H G g kp _ hi => by
    obtain ⟨vs, h1, r⟩ := g.obj a _ kp.1
    obtain ⟨ws, h2, r2⟩ := g.obj b _ kp.2
    have hi' : i < xs.length ∧ i < ys.length := by simp [zipT] at hi; omega
    obtain ⟨v, h3, _⟩ := r.get (List.getElem?_eq_getElem hi'.1)
    obtain ⟨w, h4, _⟩ := r2.get (List.getElem?_eq_getElem hi'.2)
    exact ⟨vs, ws, v, w, SqL.of h1, SqL.of h2, h3, h4⟩
  stop := fun i H G g kp _ hi => by
    obtain ⟨vs, h1, r⟩ := g.obj a _ kp.1
    obtain ⟨ws, h2, r2⟩ := g.obj b _ kp.2
    refine ⟨vs, ws, SqL.of h1, SqL.of h2, ?_⟩
    rw [r.length, r2.length]
    simp [zipT] at hi
    omega
  yld := fun i H G x H' g kp _ y hi => by
    obtain ⟨p, v, w, ex, hp, eH, y1, y2⟩ := y
    subst ex eH
    obtain ⟨vs, h1, r⟩ := g.obj a _ kp.1
    obtain ⟨ws, h2, r2⟩ := g.obj b _ kp.2
    obtain ⟨t, h3, h4⟩ := r.getV (y1 vs (SqL.of h1))
    obtain ⟨u, h5, h6⟩ := r2.getV (y2 ws (SqL.of h2))
    obtain ⟨r3, g3, s3⟩ := tup_laid g hp (.cons h4 (.cons h6 .nil))
    exact ⟨_, zipT_at h3 h5, r3, g3, s3⟩
theorem ok_zipT {K : Fr0} {en : En} {a b : Addr} {vs ws : List V} {xs ys : List T} : ItOk K en (ItzT K a b) (zipT xs ys) (fun _ => True) (fun H => SqT K H a vs ∧ RelL K H vs xs ∧ SqT K H b ws ∧ RelL K H ws ys) where
  stab := fun H H' st h => ⟨st.1 _ _ h.1, h.2.1.stay st, st.1 _ _ h.2.2.1, h.2.2.2.stay st⟩
  go := fun i H G g _ kh hi => by
    obtain ⟨h1, r, h2, r2⟩ := kh
    have hi' : i < xs.length ∧ i < ys.length := by simp [zipT] at hi; omega
    obtain ⟨v, h3, _⟩ := r.get (List.getElem?_eq_getElem hi'.1)
    obtain ⟨w, h4, _⟩ := r2.get (List.getElem?_eq_getElem hi'.2)
    exact ⟨vs, ws, v, w, h1, h2, h3, h4⟩
  stop := fun i H G g _ kh hi => by
    obtain ⟨h1, r, h2, r2⟩ := kh
    refine ⟨vs, ws, h1, h2, ?_⟩
    rw [r.length, r2.length]
    simp [zipT] at hi
    omega
  yld := fun i H G x H' g _ kh y hi => by
    obtain ⟨p, v, w, ex, hp, eH, y1, y2⟩ := y
    subst ex eH
    obtain ⟨h1, r, h2, r2⟩ := kh
    obtain ⟨t, h3, h4⟩ := r.getV (y1 vs h1)
    obtain ⟨u, h5, h6⟩ := r2.getV (y2 ws h2)
    obtain ⟨r3, g3, s3⟩ := tup_laid g hp (.cons h4 (.cons h6 .nil))
    exact ⟨_, zipT_at h3 h5, r3, g3, s3⟩
theorem i_zip (hg : Gl X "zip") (hm : X.mg "zip" = none) (ha : Ea en X [a, b] l) (hs : starEach [a, b] X.env = (false, eval a X.env) :: starEach [b] X.env := by rfl) (hpl : (backTo pos (starEach [b] X.env)).any (·.1) = false := by rfl) :
    Ei en X (.Tuple elts kk tpos) (.Call (.Name "zip" p) [a, b] [] pos) (lZip l) := by
  refine PI.weak (pi_zipA hg hm ha hs hpl) fun σ H R ⟨S, G, Ψ, s, g, q, k⟩ => ?_
  refine ⟨S, G, _, s, g, q, fun ts G1 vs H1 q1 r1 g1 s1 => ?_⟩
  split at q1
  · rename_i a b
    cases r1 with
    | cons h1 h2 =>
      cases h1
      cases h2 with
      | cons h2 h3 =>
        cases h2
        cases h3
        split at q1
        · rename_i xs ys e1 e2
          obtain ⟨vs, h1, r⟩ := g1.obj _ _ e1
          obtain ⟨ws, h2, r2⟩ := g1.obj _ _ e2
          exact ⟨a, b, vs, ws, rfl, .inl ⟨SqL.of h1, SqL.of h2, k _ _ _ _ _ _ q1 g1 s1 ok_zip True.intro⟩⟩
        · exact q1.elim
  · cases r1 with
    | cons h1 h2 =>
      cases h2 with
      | cons h2 h3 =>
        cases h3
        cases h1 with
        | @tup p1 vs ts hs1 rs1 =>
          cases h2 with
          | @tup p2 ws us hs2 rs2 => exact ⟨p1, p2, vs, ws, rfl, .inr ⟨hs1, hs2, k _ _ _ _ _ _ q1 g1 s1 ok_zipT ⟨hs1, rs1, hs2, rs2⟩⟩⟩
  · exact q1.elim

/-! ### a dict is walked: it is locked meanwhile -/
def lLock (ls : LS) : LS := fun L S G => ∃ d, match G d with
    | some (.dic kvs) => ∀ ob raw, ls ⟨fun S' G' => G' d = some (.fdic ob raw kvs) ∧ L.nx S' (gup G' d (.dic kvs)), fun t G' => G' d = some (.fdic ob raw kvs) ∧ L.rt t (gup G' d (.dic kvs)),
        fun S' G' => G' d = some (.fdic ob raw kvs) ∧ L.bk S' (gup G' d (.dic kvs)), fun S' G' => G' d = some (.fdic ob raw kvs) ∧ L.ct S' (gup G' d (.dic kvs))⟩ S (gup G d (.fdic ob raw kvs))
    | _ => False
def lLockE (le : LE) : LE := fun S G Φ => ∃ d, match G d with
    | some (.dic kvs) => ∀ ob raw, le S (gup G d (.fdic ob raw kvs)) fun t G' => G' d = some (.fdic ob raw kvs) ∧ Φ t (gup G' d (.dic kvs))
    | _ => False
theorem unlock {K : Fr0} {en : En} {H : Hp} {G : Gp} {d : Addr} {ob : Obj} {raw : List (Key × V)} {kvs : List (T × T)} (g : HRel K en H G) (e : G d = some (.fdic ob raw kvs)) :
    H d = some (.frz ob (.dK raw)) ∧ HRel K en (L2.upd H d (.dK raw)) (gup G d (.dic kvs)) ∧ Step H G (L2.upd H d (.dK raw)) (gup G d (.dic kvs)) ∧ Stay K H (L2.upd H d (.dK raw)) := by
  obtain ⟨h1, r⟩ := g.obj d _ e
  obtain ⟨g2, s2, st⟩ := g.upd (a := d) (ho := .dK raw) (o := .dic kvs) (.inr ⟨_, e, fun n z => by cases z⟩) (fun n z => by cases z) ⟨raw, upd_same, r.stay (stayL g e (fun n z => by cases z))⟩
  exact ⟨h1, g2, s2, st⟩
theorem s_lock (h : Es en X st ls) : Es en X st (lLock ls) := by
  refine PS.weak (ps_lock h) fun D σ H ⟨S, G, L, s, g, q, ends⟩ => ?_
  simp only [lLock] at q
  obtain ⟨d, q⟩ := q
  · split at q
    · rename_i kvs e
      obtain ⟨raw, h1, r⟩ := g.obj d _ e
      refine ⟨d, .dK raw, h1, True.intro, fun ob => ?_⟩
      obtain ⟨g1, s1, st1⟩ := g.upd (a := d) (ho := .frz ob (.dK raw)) (o := .fdic ob raw kvs) (.inr ⟨_, e, fun n z => by cases z⟩) (fun n z => by cases z) ⟨upd_same, r.stay (stayL g e (fun n z => by cases z))⟩
      refine ⟨S, _, _, s.stay st1, g1, q ob raw, ⟨?_, ?_, ?_, ?_⟩⟩
      · intro S' G' σ' H' ⟨e', q'⟩ s' g' t'
        obtain ⟨h2, g2, s2, st2⟩ := unlock g' e'
        exact ⟨h2, ends.nx S' _ σ' _ q' (s'.stay st2) g2 ((s1.trans t').trans s2)⟩
      · intro t G' v H' ⟨e', q'⟩ r' g' t'
        obtain ⟨h2, g2, s2, st2⟩ := unlock g' e'
        exact ⟨h2, ends.rt t _ v _ q' (r'.stay st2) g2 ((s1.trans t').trans s2)⟩
      · intro S' G' σ' H' ⟨e', q'⟩ s' g' t'
        obtain ⟨h2, g2, s2, st2⟩ := unlock g' e'
        exact ⟨h2, ends.bk S' _ σ' _ q' (s'.stay st2) g2 ((s1.trans t').trans s2)⟩
      · intro S' G' σ' H' ⟨e', q'⟩ s' g' t'
        obtain ⟨h2, g2, s2, st2⟩ := unlock g' e'
        exact ⟨h2, ends.ct S' _ σ' _ q' (s'.stay st2) g2 ((s1.trans t').trans s2)⟩
    · exact q.elim
theorem e_lock (h : E en X e la) : E en X e (lLockE la) := by
  refine PE.weak (pe_lock h) fun σ H Q ⟨S, G, Φ, s, g, q, k⟩ => ?_
  simp only [lLockE] at q
  obtain ⟨d, q⟩ := q
  · split at q
    · rename_i kvs e
      obtain ⟨raw, h1, r⟩ := g.obj d _ e
      refine ⟨d, .dK raw, h1, True.intro, fun ob => ?_⟩
      obtain ⟨g1, s1, st1⟩ := g.upd (a := d) (ho := .frz ob (.dK raw)) (o := .fdic ob raw kvs) (.inr ⟨_, e, fun n z => by cases z⟩) (fun n z => by cases z) ⟨upd_same, r.stay (stayL g e (fun n z => by cases z))⟩
      refine ⟨S, _, _, s.stay st1, g1, q ob raw, fun t G' v H' ⟨e', q'⟩ r' g' t' => ?_⟩
      obtain ⟨h2, g2, s2, st2⟩ := unlock g' e'
      exact ⟨h2, k t _ v _ q' (r'.stay st2) g2 ((s1.trans t').trans s2)⟩
    · exact q.elim
end
end Dv
namespace Dv
open PySem L2

/-! ### what a def promises, over deep values -/
abbrev XK2 := Addr → List (Str × T) → Gp → Prop
abbrev Sp2 := List T → Gp → QT → XK2 → Prop
def noX : XK2 := fun _ _ _ => False
/-- an exception of the class at C with its fields -/
def ERel (K : Fr0) (H : Hp) (cls : Value) (d : Option Addr) (C : Addr) (fs : List (Str × T)) : Prop := cls = .ref C ∧ ((d = none ∧ fs = []) ∨ ∃ dd raw, d = some dd ∧ H dd = some (.xd raw) ∧ RelF K H raw fs)
def lowX (K : Fr0) (en : En) (E2 : XK2) : XK := fun cls d H => ∃ C fs G, E2 C fs G ∧ ERel K H cls d C fs ∧ HRel K en H G
def lowSp (K : Fr0) (sp : Sp2) : Sp := fun vs H Q E => ∃ ts G Φ ΦE, RelL K H vs ts ∧ HRel K [] H G ∧ sp ts G Φ ΦE ∧ (∀ t G' v H', Φ t G' → Rel K H' v t → HRel K [] H' G' → Step H G H' G' → Q v H') ∧
  ∀ C fs G' H' cls d, ΦE C fs G' → ERel K H' cls d C fs → HRel K [] H' G' → Step H G H' G' → E cls d H'
theorem lowX_no {K : Fr0} {en : En} {cls : Value} {d : Option Addr} {H : Hp} : ¬ lowX K en noX cls d H := fun ⟨_, _, _, h, _⟩ => h.elim
theorem pass0X {X : Cx} {E : XK} : Passes CX0 X E := fun _ _ _ _ _ _ _ h => h.elim
theorem passN {X : Cx} {en : En} : Passes (L2.CX X.prog X.w) X (lowX X.K en noX) := fun _ _ _ _ _ _ _ h => by
  obtain ⟨_, _, _, _, _, _, _, _, _, _, _, _, z⟩ := h
  exact (lowX_no z).elim
def lCall (sp : Sp2) (dts : List T) (E2 : XK2) (l : LA) : LE := fun S G Φ => l S G fun ts G1 => sp (ts ++ dts) G1 Φ E2
def lCallK (sp : Sp2) (gT : List T → List T → List T) (E2 : XK2) (l lk : LA) : LE := fun S G Φ => l S G fun ts G1 => lk S G1 fun us G2 => sp (gT ts us) G2 Φ E2
def lMeth (C : Addr) (m : Str) (sp : Sp2) (dts : List T) (E2 : XK2) (la : LE) (l : LA) : LE := fun S G Φ => la S G fun t G1 => match t with
  | .ref a => (match G1 a with
    | some (.ins C' fs) => C' = C ∧ fs.lookup m = none ∧ l S G1 fun ts G2 => sp (.ref a :: (ts ++ dts)) G2 Φ E2
    | _ => False)
  | _ => False
def lMake (C : Addr) (sp : Sp2) (dts : List T) (E2 : XK2) (l : LA) : LE := fun S G Φ => l S G fun ts G1 => ∀ x, G1 x = none → sp (.ref x :: (ts ++ dts)) (gup G1 x (.ins C [])) (fun t G2 => t = .non ∧ Φ (.ref x) G2) E2
/-- o.f -/
def lFld (C : Addr) (f : Str) (la : LE) : LE := fun S G Φ => la S G fun t G1 => match t with
  | .ref a => (match G1 a with
    | some (.ins C' fs) => C' = C ∧ (match fs.lookup f with
      | some u => Φ u G1
      | none => False)
    | _ => False)
  | _ => False
def putT (f : Str) (v : T) : List (Str × T) → List (Str × T)
  | [] => [(f, v)]
  | p :: r => if p.1 = f then (f, v) :: r else p :: putT f v r
/-- o.f = v: the value first -/
def lFldS (C : Addr) (f : Str) (la lv : LE) : LS := fun L S G => lv S G fun v G1 => la S G1 fun t G2 => match t with
  | .ref a => (match G2 a with
    | some (.ins C' fs) => C' = C ∧ fs.length < 1000 ∧ L.nx S (gup G2 a (.ins C (putT f v fs)))
    | _ => False)
  | _ => False
theorem RelF.look {K : Fr0} {H : Hp} {f : Str} : ∀ {vs : List (Str × V)} {ts : List (Str × T)}, RelF K H vs ts → (ts.lookup f = none ∧ vs.lookup f = none) ∨ ∃ t v, ts.lookup f = some t ∧ vs.lookup f = some v ∧ Rel K H v t
  | _, _, .nil => .inl ⟨rfl, rfl⟩
  | _, _, .cons (k := j) (v := v) (t := t) (kvs := r) (ts := u) h rs => by
    by_cases e : f = j
    · subst e
      exact .inr ⟨t, v, by simp, by simp, h⟩
    · have e' : (f == j) = false := beq_eq_false_iff_ne.mpr e
      rcases RelF.look (f := f) rs with ⟨h1, h2⟩ | ⟨t', v', h1, h2, h3⟩
      · exact .inl ⟨by rw [List.lookup_cons, e']; exact h1, by rw [List.lookup_cons, e']; exact h2⟩
      · exact .inr ⟨t', v', by rw [List.lookup_cons, e']; exact h1, by rw [List.lookup_cons, e']; exact h2, h3⟩
theorem RelF.length {K : Fr0} {H : Hp} : ∀ {vs : List (Str × V)} {ts : List (Str × T)}, RelF K H vs ts → vs.length = ts.length
  | _, _, .nil => rfl
  | _, _, .cons _ r => by simp [RelF.length r]
theorem RelF.put {K : Fr0} {H : Hp} {f : Str} {v : V} {t : T} (h : Rel K H v t) : ∀ {vs : List (Str × V)} {ts : List (Str × T)}, RelF K H vs ts → RelF K H (putF f v vs) (putT f t ts)
  | _, _, .nil => .cons h .nil
  | _, _, .cons (k := j) hr r => by
    unfold putF putT
    by_cases e : j = f
    · subst e
      rw [if_pos rfl, if_pos rfl]
      exact .cons h r
    · rw [if_neg e, if_neg e]
      exact .cons hr (RelF.put h r)

section
variable {X : Cx} {CX : CXT} {a b c e o : Expr} {es : List Expr} {la lb lv : LE} {l lk : LA} {pos p p2 apos cpos : Pos} {k : Nat} {f C : Addr} {fd : FuncData} {ps ks : List Str} {sp : Sp2} {dts : List T} {dvs : List V} {ds : List Value} {E2 : XK2} {x m : Str} {kws : List Keyword}
theorem low_call {K : Fr0} (hdt : ∀ H, RelL K H dvs dts) : ∀ σ H Q, low K en (lCall sp dts E2 l) σ H Q → tCall (lowSp K sp) dvs (lowX K en E2) (lowA K en l) σ H Q := by
  intro σ H Q ⟨S, G, Φ, s, g, q, kk⟩
  refine ⟨S, G, _, s, g, q, fun ts G1 vs H1 q1 r1 g1 s1 => ?_⟩
  refine ⟨ts ++ dts, G1, Φ, E2, r1.app (hdt H1), g1.nil, q1, fun t G' v H' a b c d => kk t G' v H' a b (g1.back c d) (s1.trans d), fun C fs G' H' cls d a b c d' => ⟨C, fs, G', a, b, g1.back c d'⟩⟩
theorem e_call (F : FnOk X.prog X.w X.K X.mg X.base CX k f fd ps (lowSp X.K sp)) (hr : Room k X.A) (hg : Gl X x) (hm : X.mg x = some (.ref f)) (hk : PySem.W.keepIn X.K (.ref f) = true) (hb : Binds X.K fd ps ds) (hd : Vals dvs ds) (hdt : ∀ H, RelL X.K H dvs dts) (hx : Passes CX X (lowX X.K en E2))
    (ha : Ea en X (e :: es) l) (hdb : (x == ("__debug__" : Str)) = false := by decide) (he : starEach (e :: es) X.env = (false, eval e X.env) :: starEach es X.env := by rfl) (hpl : (backTo pos (starEach es X.env)).any (·.1) = false := by rfl) :
    E en X (.Call (.Name x p) (e :: es) [] pos) (lCall sp dts E2 l) := PE.weak (pe_call F hr hg hm hk hb hd hx ha hdb he hpl) (low_call hdt)
theorem e_call0 (F : FnOk X.prog X.w X.K X.mg X.base CX k f fd ps (lowSp X.K sp)) (hr : Room k X.A) (hg : Gl X x) (hm : X.mg x = some (.ref f)) (hk : PySem.W.keepIn X.K (.ref f) = true) (hb : Binds X.K fd ps ds) (hd : Vals dvs ds) (hdt : ∀ H, RelL X.K H dvs dts) (hx : Passes CX X (lowX X.K en E2))
    (hdb : (x == ("__debug__" : Str)) = false := by decide) : E en X (.Call (.Name x p) [] [] pos) (lCall sp dts E2 lNil) :=
  PE.weak (pe_call0 F hr hg hm hk hb hd hx hdb) fun σ H Q ⟨S, G, Φ, s, g, q, kk⟩ =>
    ⟨[] ++ dts, G, Φ, E2, RelL.app .nil (hdt H), g.nil, q, fun t G' v H' a b c d => kk t G' v H' a b (g.back c d) d, fun C fs G' H' cls d a b c d' => ⟨C, fs, G', a, b, g.back c d'⟩⟩
/-! keywords -/
def Ek (en : En) (X : Cx) (kws : List Keyword) (l : LA) : Prop := PK X kws (lowA X.K en l)
theorem PK.weak {t t' : TA} (h : PK X kws t) (w : ∀ σ H Q, t' σ H Q → t σ H Q) : PK X kws t' := ⟨fun pos pins s σ H Q I q => h.run pos pins s σ H Q I (w σ H Q q)⟩
theorem k_nil : Ek en X [] lNil := PK.weak pk_nil fun σ H Q ⟨S, G, Φ, s, g, q, k⟩ => k [] G [] H q .nil g (Step.refl H G)
theorem k_cons {lr : LA} {nm : Option Str} {kp : Pos} (h : E en X a la) (hr : Ek en X kws lr) : Ek en X (⟨nm, a, kp⟩ :: kws) (lCons la lr) := by
  refine PK.weak (pk_cons h hr) fun σ H Q ⟨S, G, Φ, s, g, q, k⟩ => ?_
  refine ⟨S, G, _, s, g, q, fun t G1 v H1 q1 r1 g1 s1 => ?_⟩
  refine ⟨S, G1, _, s.stay (s1.stay g), g1, q1, fun ts G2 vs H2 q2 r2 g2 s2 => ?_⟩
  exact k (t :: ts) G2 (v :: vs) H2 q2 (.cons (r1.stay (s2.stay g1)) r2) g2 (s1.trans s2)
theorem low_callK {K : Fr0} {gV : List V → List V → List V} {gT : List T → List T → List T} (hgT : ∀ H vs ts ws us, RelL K H vs ts → RelL K H ws us → RelL K H (gV vs ws) (gT ts us)) :
    ∀ σ H Q, low K en (lCallK sp gT E2 l lk) σ H Q → tCallK (lowSp K sp) gV (lowX K en E2) (lowA K en l) (lowA K en lk) σ H Q := by
  intro σ H Q ⟨S, G, Φ, s, g, q, kk⟩
  refine ⟨S, G, _, s, g, q, fun ts G1 vs H1 q1 r1 g1 s1 => ?_⟩
  refine ⟨S, G1, _, s.stay (s1.stay g), g1, q1, fun us G2 ws H2 q2 r2 g2 s2 => ?_⟩
  refine ⟨gT ts us, G2, Φ, E2, hgT _ _ _ _ _ (r1.stay (s2.stay g1)) r2, g2.nil, q2, fun t G' v H' a b c d => kk t G' v H' a b (g2.back c d) ((s1.trans s2).trans d), fun C fs G' H' cls d a b c d' => ⟨C, fs, G', a, b, g2.back c d'⟩⟩
theorem e_callK {g : List Value → List Value → List Value} {gV : List V → List V → List V} {gT : List T → List T → List T} (F : FnOk X.prog X.w X.K X.mg X.base CX k f fd ps (lowSp X.K sp)) (hr : Room k X.A) (hg : Gl X x) (hm : X.mg x = some (.ref f)) (hk : PySem.W.keepIn X.K (.ref f) = true)
    (hb : KBinds X.K fd ps ks g gV) (hgT : ∀ H vs ts ws us, RelL X.K H vs ts → RelL X.K H ws us → RelL X.K H (gV vs ws) (gT ts us)) (hx : Passes CX X (lowX X.K en E2))
    (ha : Ea en X (e :: es) l) (hkw : Ek en X kws lk) (hall : (backToKw pos (keywordEach kws X.env)).all (·.1.isSome) = true := by rfl) (hks : (backToKw pos (keywordEach kws X.env)).filterMap (·.1) = ks := by rfl)
    (hdb : (x == ("__debug__" : Str)) = false := by decide) (he : starEach (e :: es) X.env = (false, eval e X.env) :: starEach es X.env := by rfl)
    (hpl : ((backTo pos (starEach (e :: es) X.env)).any (·.1) || (backToKw pos (keywordEach kws X.env)).any (·.1.isNone)) = false := by rfl) :
    E en X (.Call (.Name x p) (e :: es) kws pos) (lCallK sp gT E2 l lk) := PE.weak (pe_callK F hr hg hm hk hb hx ha hkw hall hks hdb he hpl) (low_callK hgT)
/-- keywords alone -/
theorem pe_callK0 {sp : Sp} {E : XK} {tk : TA} {g : List Value → List Value → List Value} {gV : List V → List V → List V} (F : FnOk X.prog X.w X.K X.mg X.base CX k f fd ps sp) (hr : Room k X.A) (hg : Gl X x) (hm : X.mg x = some (.ref f)) (hk : PySem.W.keepIn X.K (.ref f) = true) (hb : KBinds X.K fd ps ks g gV) (hx : Passes CX X E)
    (hkw : PK X kws tk) (hall : (backToKw pos (keywordEach kws X.env)).all (·.1.isSome) = true) (hks : (backToKw pos (keywordEach kws X.env)).filterMap (·.1) = ks)
    (hdb : (x == ("__debug__" : Str)) = false) (hpl : ((backTo pos (starEach [] X.env)).any (·.1) || (backToKw pos (keywordEach kws X.env)).any (·.1.isNone)) = false) :
    PE X (.Call (.Name x p) [] kws pos) (tCallK sp gV E tNil tk) := by
  refine ⟨fun pins s σ H Q I h => ?_⟩
  refine wpAny_Call_Name_kw (ld_glob I hg hm ?_ hdb)
  refine PySem.W.callWith_KW0 (h₀ := X.base) I.ok.mod.kin hk hall ?_ hpl
  refine thn (hkw.run pos pins s σ H _ I h) fun ws s2 ⟨zs, H2, I2, rz, q2⟩ => ⟨I2.kIn, ?_⟩
  rw [hks]
  exact run_fnk (us := []) F hr hb hx I2 .nil rz q2
theorem e_callK0 {g : List Value → List Value → List Value} {gV : List V → List V → List V} {gT : List T → List T → List T} (F : FnOk X.prog X.w X.K X.mg X.base CX k f fd ps (lowSp X.K sp)) (hr : Room k X.A) (hg : Gl X x) (hm : X.mg x = some (.ref f)) (hk : PySem.W.keepIn X.K (.ref f) = true)
    (hb : KBinds X.K fd ps ks g gV) (hgT : ∀ H vs ts ws us, RelL X.K H vs ts → RelL X.K H ws us → RelL X.K H (gV vs ws) (gT ts us)) (hx : Passes CX X (lowX X.K en E2))
    (hkw : Ek en X kws lk) (hall : (backToKw pos (keywordEach kws X.env)).all (·.1.isSome) = true := by rfl) (hks : (backToKw pos (keywordEach kws X.env)).filterMap (·.1) = ks := by rfl)
    (hdb : (x == ("__debug__" : Str)) = false := by decide) (hpl : ((backTo pos (starEach [] X.env)).any (·.1) || (backToKw pos (keywordEach kws X.env)).any (·.1.isNone)) = false := by rfl) :
    E en X (.Call (.Name x p) [] kws pos) (lCallK sp gT E2 lNil lk) :=
  PE.weak (pe_callK0 F hr hg hm hk hb hx hkw hall hks hdb hpl) fun σ H Q h => by
    obtain ⟨S, G, Φ, s, g, q, kk⟩ := low_callK (l := lNil) hgT σ H Q h
    exact kk [] G [] H q .nil g (Step.refl H G)
/-! methods, instances -/
theorem e_meth {pl : Sem Bool} (he : E en X o la) (c : Cls X.K C) (hm : Meth X.K C m f) (F : FnOk X.prog X.w X.K X.mg X.base CX k f fd ps (lowSp X.K sp)) (hr : Room k X.A) (hb : Binds X.K fd ps ds) (hd : Vals dvs ds) (hdt : ∀ H, RelL X.K H dvs dts) (hx : Passes CX X (lowX X.K en E2)) (ha : Ea en X (e :: es) l)
    (hst : starEach (e :: es) X.env = (false, eval e X.env) :: starEach es X.env := by rfl) (hpl : (backTo pos (starEach es X.env)).any (·.1) = false := by rfl)
    (ht : eval (.Call (.Attribute o m apos) (e :: es) [] pos) X.env = (do
      let ov ← eval o X.env
      standAt apos.atName
      let (f, first) ← holding [ov] (getMethod ov m pl)
      callWith pos f first (backTo pos (starEach (e :: es) X.env)) (backToKw pos (keywordEach [] X.env))) := by rfl) :
    E en X (.Call (.Attribute o m apos) (e :: es) [] pos) (lMeth C m sp dts E2 la l) := by
  refine PE.weak (pe_meth he c hm F hr hb hd hx ha hst hpl ht) fun σ H Q ⟨S, G, Φ, s, g, q, kk⟩ => ?_
  refine ⟨S, G, _, s, g, q, fun t G1 v H1 q1 r1 g1 s1 => ?_⟩
  cases r1 with
  | ref a =>
    simp only at q1
    split at q1
    · rename_i C' fs e1
      obtain ⟨hC, hl, q1⟩ := q1
      subst hC
      obtain ⟨dx, raw, h1, rf⟩ := g1.obj _ _ e1
      have hl' : raw.lookup m = none := by
        rcases rf.look (f := m) with ⟨_, z⟩ | ⟨t, v, z, _⟩
        · exact z
        · rw [hl] at z; cases z
      refine ⟨a, dx, raw, rfl, h1, hl', ?_⟩
      refine ⟨S, G1, _, s.stay (s1.stay g), g1, q1, fun ts G2 vs H2 q2 r2 g2 s2 => ?_⟩
      exact ⟨_, G2, Φ, E2, .cons (.ref a) (r2.app (hdt H2)), g2.nil, q2, fun t G' v H' a b c d => kk t G' v H' a b (g2.back c d) ((s1.trans s2).trans d), fun C fs G' H' cls d a b c d' => ⟨C, fs, G', a, b, g2.back c d'⟩⟩
    · exact q1.elim
  | _ => exact q1.elim
theorem e_meth0 {pl : Sem Bool} (he : E en X o la) (c : Cls X.K C) (hm : Meth X.K C m f) (F : FnOk X.prog X.w X.K X.mg X.base CX k f fd ps (lowSp X.K sp)) (hr : Room k X.A) (hb : Binds X.K fd ps ds) (hd : Vals dvs ds) (hdt : ∀ H, RelL X.K H dvs dts) (hx : Passes CX X (lowX X.K en E2))
    (ht : eval (.Call (.Attribute o m apos) [] [] pos) X.env = (do
      let ov ← eval o X.env
      standAt apos.atName
      let (f, first) ← holding [ov] (getMethod ov m pl)
      callWith pos f first (backTo pos (starEach [] X.env)) (backToKw pos (keywordEach [] X.env))) := by rfl) :
    E en X (.Call (.Attribute o m apos) [] [] pos) (lMeth C m sp dts E2 la lNil) := by
  refine PE.weak (pe_meth0 he c hm F hr hb hd hx ht) fun σ H Q ⟨S, G, Φ, s, g, q, kk⟩ => ?_
  refine ⟨S, G, _, s, g, q, fun t G1 v H1 q1 r1 g1 s1 => ?_⟩
  cases r1 with
  | ref a =>
    simp only at q1
    split at q1
    · rename_i C' fs e1
      obtain ⟨hC, hl, q1⟩ := q1
      subst hC
      obtain ⟨dx, raw, h1, rf⟩ := g1.obj _ _ e1
      have hl' : raw.lookup m = none := by
        rcases rf.look (f := m) with ⟨_, z⟩ | ⟨t, v, z, _⟩
        · exact z
        · rw [hl] at z; cases z
      refine ⟨a, dx, raw, rfl, h1, hl', ?_⟩
      exact ⟨_, G1, Φ, E2, .cons (.ref a) (RelL.app .nil (hdt H1)), g1.nil, q1, fun t G' v H' a b c d => kk t G' v H' a b (g1.back c d) (s1.trans d), fun C fs G' H' cls d a b c d' => ⟨C, fs, G', a, b, g1.back c d'⟩⟩
    · exact q1.elim
  | _ => exact q1.elim
theorem made {K : Fr0} {H : Hp} {G : Gp} {x dx : Addr} (g : HRel K en H G) (h1 : H x = none) (h2 : H dx = none) (hne : dx ≠ x) : HRel K en (L2.upd (L2.upd H dx (.own x)) x (.ins C dx [])) (gup G x (.ins C [])) ∧ Step H G (L2.upd (L2.upd H dx (.own x)) x (.ins C dx [])) (gup G x (.ins C [])) := by
  obtain ⟨g1, s1, _⟩ := g.laid (ho := .own x) h2
  obtain ⟨g2, s2, _⟩ := g1.upd (a := x) (ho := .ins C dx []) (o := .ins C []) (.inl (by rw [upd_ne hne.symm]; exact h1)) (fun n z => by cases z) ⟨dx, [], upd_same, .nil⟩
  exact ⟨g2, s1.trans s2⟩
theorem e_make (M : Mk X.K C f) (F : FnOk X.prog X.w X.K X.mg X.base CX k f fd ps (lowSp X.K sp)) (hr : Room (k + 1) X.A) (hg : Gl X x) (hm : X.mg x = some (.ref C)) (hb : Binds X.K fd ps ds) (hd : Vals dvs ds) (hdt : ∀ H, RelL X.K H dvs dts) (hx : Passes CX X (lowX X.K en E2))
    (ha : Ea en X (e :: es) l) (hdb : (x == ("__debug__" : Str)) = false := by decide) (he : starEach (e :: es) X.env = (false, eval e X.env) :: starEach es X.env := by rfl) (hpl : (backTo pos (starEach es X.env)).any (·.1) = false := by rfl) :
    E en X (.Call (.Name x p) (e :: es) [] pos) (lMake C sp dts E2 l) := by
  refine PE.weak (pe_make M F hr hg hm hb hd hx ha hdb he hpl) fun σ H Q ⟨S, G, Φ, s, g, q, kk⟩ => ?_
  refine ⟨S, G, _, s, g, q, fun ts G1 vs H1 q1 r1 g1 s1 y dy h1 h2 hne => ?_⟩
  obtain ⟨g2, s2⟩ := made (C := C) g1 h1 h2 hne
  exact ⟨_, _, _, E2, .cons (.ref y) ((r1.stay (s2.stay g1)).app (hdt _)), g2.nil, q1 y (g1.fresh h1), fun t G' v H' a b c d => by
    obtain ⟨e1, a⟩ := a
    subst e1
    cases b
    exact ⟨rfl, kk _ G' _ H' a (.ref y) (g2.back c d) ((s1.trans s2).trans d)⟩, fun C fs G' H' cls d a b c d' => ⟨C, fs, G', a, b, g2.back c d'⟩⟩
theorem e_fld {fl : Str} (he : E en X o la) (c : Cls X.K C) (n : NoAttr X.K C fl) (hb : attributeBase o fl X.env (eval o X.env) = eval o X.env := by rfl) : E en X (.Attribute o fl pos) (lFld C fl la) := by
  refine PE.weak (pe_fld he hb) fun σ H Q ⟨S, G, Φ, s, g, q, kk⟩ => ?_
  refine ⟨S, G, _, s, g, q, fun t G1 v H1 q1 r1 g1 s1 => ?_⟩
  cases r1 with
  | ref a =>
    simp only at q1
    split at q1
    · rename_i C' fs e1
      obtain ⟨hC, q1⟩ := q1
      subst hC
      split at q1
      · rename_i u e2
        obtain ⟨dx, raw, h1, rf⟩ := g1.obj _ _ e1
        rcases rf.look (f := fl) with ⟨z, _⟩ | ⟨t, v, z1, z2, z3⟩
        · rw [e2] at z; cases z
        · rw [e2] at z1
          cases z1
          exact ⟨a, C', dx, raw, v, rfl, h1, c, n, z2, kk u G1 v H1 q1 z3 g1 s1⟩
      · exact q1.elim
    · exact q1.elim
  | _ => exact q1.elim
theorem s_fld {fl : Str} {pos' : Pos} (ha : E en X o la) (hv : E en X e lv) (c : Cls X.K C) (n : NoAttr X.K C fl) (hs : swapsWith e (some (.Attribute o fl pos')) pos.line X.env = pure false := by rfl) : Es en X (.Assign [.Attribute o fl pos'] e pos) (lFldS C fl la lv) := by
  refine PS.weak (ps_fld ha hv hs) fun D σ H ⟨S, G, L, s, g, q, ends⟩ => ?_
  refine ⟨S, G, _, s, g, q, fun v G1 x H1 q1 r1 g1 s1 => ?_⟩
  refine ⟨S, G1, _, s.stay (s1.stay g), g1, q1, fun t G2 y H2 q2 r2 g2 s2 => ?_⟩
  have s12 := s1.trans s2
  cases r2 with
  | ref a =>
    simp only at q2
    split at q2
    · rename_i C' fs e1
      obtain ⟨hC, hl, q2⟩ := q2
      subst hC
      obtain ⟨dx, raw, h1, rf⟩ := g2.obj _ _ e1
      have st := stayL (ho := .ins C' dx (putF fl x raw)) g2 e1 (fun n z => by cases z)
      obtain ⟨g3, s3, st3⟩ := g2.upd (a := a) (ho := .ins C' dx (putF fl x raw)) (o := .ins C' (putT fl v fs)) (.inr ⟨_, e1, fun n z => by cases z⟩) (fun n z => by cases z) ⟨dx, _, upd_same, RelF.stay st (rf.put (r1.stay (s2.stay g1)))⟩
      exact ⟨a, C', dx, raw, rfl, h1, c, n, by rw [rf.length]; exact hl, ends.nx S _ σ _ q2 (s.stay ((s12.trans s3).stay g)) g3 (s12.trans s3)⟩
    · exact q2.elim
  | _ => exact q2.elim

/-! ### built-ins by name -/
theorem low_cb {K : Fr0} {r : RLT} : ∀ σ H Q, low K en (lCB r l) σ H Q → tCB (lowC K en r) (lowA K en l) σ H Q := by
  intro σ H Q ⟨S, G, Φ, s, g, q, kk⟩
  refine ⟨S, G, _, s, g, q, fun ts G1 vs H1 q1 r1 g1 s1 => ?_⟩
  exact ⟨ts, G1, Φ, r1, g1, q1, fun t G' v H' a b c d => kk t G' v H' a b c (s1.trans d)⟩
theorem e_cb {r : RLT} {id : String} (hc : CallR X (.builtin id) (lowC X.K en r)) (hg : Gl X x) (hm : X.mg x = none) (hv : bootBuiltins x = some (.builtin id)) (ha : Ea en X (e :: es) l) (hn : x ≠ "__name__" := by decide) (hdb : (x == ("__debug__" : Str)) = false := by decide)
    (he : starEach (e :: es) X.env = (false, eval e X.env) :: starEach es X.env := by rfl) (hpl : (backTo pos (starEach es X.env)).any (·.1) = false := by rfl) : E en X (.Call (.Name x p) (e :: es) [] pos) (lCB r l) :=
  PE.weak (pe_callB hc hg hm hv ha hn hdb he hpl) low_cb
theorem e_ct {r : RLT} {ty : String} (hc : CallR X (.type ty) (lowC X.K en r)) (hg : Gl X x) (hm : X.mg x = none) (hv : bootBuiltins x = some (.type ty)) (ha : Ea en X (e :: es) l) (hn : x ≠ "__name__" := by decide) (hdb : (x == ("__debug__" : Str)) = false := by decide)
    (he : starEach (e :: es) X.env = (false, eval e X.env) :: starEach es X.env := by rfl) (hpl : (backTo pos (starEach es X.env)).any (·.1) = false := by rfl) : E en X (.Call (.Name x p) (e :: es) [] pos) (lCB r l) :=
  PE.weak (pe_callTy hc hg hm hv ha hn hdb he hpl) low_cb
def lenT : RLT := fun ts G Φ => match ts with
  | [.str s] => s.length ≤ sizeLine ∧ Φ (.int (s.length : Int)) G
  | [.tup xs] => Φ (.int (xs.length : Int)) G
  | [.ref a] => (match G a with
    | some (.lst xs) => Φ (.int (xs.length : Int)) G
    | some (.dic kvs) => Φ (.int (kvs.length : Int)) G
    | some (.fdic _ _ kvs) => Φ (.int (kvs.length : Int)) G
    | _ => False)
  | _ => False
theorem call_lenR : CallR X (.builtin "len") (fun xs H Q => ∃ a kvs, xs = [V.ref a] ∧ Rd H a (.dK kvs) ∧ Q (.int kvs.length) H) := by
  intro pins s σ H xs us Q I r h
  obtain ⟨a, kvs, rfl, ha, q⟩ := h
  obtain ⟨u, rfl, ru⟩ := vals1 r
  cases ru
  exact d_len I ha fun t s' I' => ⟨.int kvs.length, H, I', ⟨t, rfl⟩, q⟩
theorem b_len : CallR X (.builtin "len") (lowC X.K en lenT) := by
  refine CallR.weak (CallR.or call_len call_lenR) fun xs H Q ⟨ts, G, Φ, r, g, q, kk⟩ => ?_
  unfold lenT at q
  split at q
  · cases r with
    | cons h1 h2 =>
      cases h1
      cases h2
      exact .inl ⟨_, _, rfl, ⟨q.1, rfl⟩, kk _ _ _ _ q.2 (.int _) g (Step.refl H G)⟩
  · cases r with
    | cons h1 h2 =>
      cases h2
      cases h1 with
      | tup hs rs => exact .inl ⟨_, _, rfl, .inr ⟨_, hs, rfl⟩, by rw [rs.length]; exact kk _ _ _ _ q (.int _) g (Step.refl H G)⟩
  · cases r with
    | cons h1 h2 =>
      cases h1
      cases h2
      split at q
      · rename_i xs e1
        obtain ⟨vs, h1, r1⟩ := g.obj _ _ e1
        exact .inl ⟨_, _, rfl, .inl ⟨_, SqL.of h1, rfl⟩, by rw [r1.length]; exact kk _ _ _ _ q (.int _) g (Step.refl H G)⟩
      · rename_i kvs e1
        obtain ⟨vs, h1, r1⟩ := g.obj _ _ e1
        exact .inr ⟨_, _, rfl, .inl h1, by rw [r1.length]; exact kk _ _ _ _ q (.int _) g (Step.refl H G)⟩
      · rename_i ob vs kvs e1
        obtain ⟨h1, r1⟩ := g.obj _ _ e1
        exact .inr ⟨_, _, rfl, .inr ⟨_, h1⟩, by rw [r1.length]; exact kk _ _ _ _ q (.int _) g (Step.refl H G)⟩
      · exact q.elim
  · exact q.elim
def absT : RLT := fun ts G Φ => match ts with
  | [.int i] => Φ (.int (if i < 0 then -i else i)) G
  | _ => False
theorem b_abs : CallR X (.builtin "abs") (lowC X.K en absT) := by
  refine CallR.weak call_abs fun xs H Q ⟨ts, G, Φ, r, g, q, kk⟩ => ?_
  unfold absT at q
  split at q
  · cases r with
    | cons h1 h2 =>
      cases h1
      cases h2
      exact ⟨_, rfl, kk _ _ _ _ q (.int _) g (Step.refl H G)⟩
  · exact q.elim
def intCT : RLT := fun ts G Φ => match ts with
  | [.int i] => Φ (.int i) G
  | [.bl k] => Φ (.int (if k then 1 else 0)) G
  | _ => False
theorem b_int : CallR X (.type "int") (lowC X.K en intCT) := by
  refine CallR.weak call_int1 fun xs H Q ⟨ts, G, Φ, r, g, q, kk⟩ => ?_
  unfold intCT at q
  split at q
  · cases r with
    | cons h1 h2 =>
      cases h1
      cases h2
      exact .inl ⟨_, rfl, kk _ _ _ _ q (.int _) g (Step.refl H G)⟩
  · cases r with
    | cons h1 h2 =>
      cases h1
      cases h2
      exact .inr ⟨_, rfl, kk _ _ _ _ q (.int _) g (Step.refl H G)⟩
  · exact q.elim
def listT : RLT := fun ts G Φ => match ts with
  | [.tup xs] => ∀ p, G p = none → Φ (.ref p) (gup G p (.lst xs))
  | [.ref a] => (match G a with
    | some (.lst xs) => ∀ p, G p = none → Φ (.ref p) (gup G p (.lst xs))
    | _ => False)
  | _ => False
theorem b_list : CallR X (.type "list") (lowC X.K en listT) := by
  refine CallR.weak call_list_of fun xs H Q ⟨ts, G, Φ, r, g, q, kk⟩ => ?_
  unfold listT at q
  split at q
  · cases r with
    | cons h1 h2 =>
      cases h2
      cases h1 with
      | tup hs rs =>
        refine ⟨_, _, rfl, .inr hs, fun p hp => ?_⟩
        obtain ⟨g2, s2⟩ := lst_laid g hp rs
        exact kk _ _ _ _ (q p (g.fresh hp)) (.ref p) g2 s2
  · cases r with
    | cons h1 h2 =>
      cases h1
      cases h2
      split at q
      · rename_i xs e1
        obtain ⟨vs, h1, r1⟩ := g.obj _ _ e1
        refine ⟨_, _, rfl, .inl (SqL.of h1), fun p hp => ?_⟩
        obtain ⟨g2, s2⟩ := lst_laid g hp r1
        exact kk _ _ _ _ (q p (g.fresh hp)) (.ref p) g2 s2
      · exact q.elim
  · exact q.elim
def tupCT : RLT := fun ts G Φ => match ts with
  | [.tup xs] => Φ (.tup xs) G
  | [.ref a] => (match G a with
    | some (.lst xs) => Φ (.tup xs) G
    | _ => False)
  | _ => False
theorem b_tuple : CallR X (.type "tuple") (lowC X.K en tupCT) := by
  refine CallR.weak call_tuple_of fun xs H Q ⟨ts, G, Φ, r, g, q, kk⟩ => ?_
  unfold tupCT at q
  split at q
  · cases r with
    | cons h1 h2 =>
      cases h2
      cases h1 with
      | tup hs rs => exact ⟨_, _, rfl, .inr ⟨hs, kk _ _ _ _ q (.tup hs rs) g (Step.refl H G)⟩⟩
  · cases r with
    | cons h1 h2 =>
      cases h1
      cases h2
      split at q
      · rename_i xs e1
        obtain ⟨vs, h1, r1⟩ := g.obj _ _ e1
        refine ⟨_, _, rfl, .inl ⟨SqL.of h1, fun p hp => ?_⟩⟩
        obtain ⟨r2, g2, s2⟩ := tup_laid g hp r1
        exact kk _ _ _ _ q r2 g2 s2
      · exact q.elim
  · exact q.elim
/-- sorted of texts, of a dict's keys that are texts -/
def sortT : RLT := fun ts G Φ => match ts with
  | [.ref a] => (match G a with
    | some (.lst xs) => ∃ ss : List Str, xs = ss.map T.str ∧ ss.length < 64 ∧ ∀ ys p, ys.Perm ss → PyProof.Rows.sortedS ys = true → G p = none → Φ (.ref p) (gup G p (.lst (ys.map T.str)))
    | some (.dic kvs) => ∃ ss : List Str, kvs.map (·.1) = ss.map T.str ∧ ss.length < 64 ∧ ∀ ys p, ys.Perm ss → PyProof.Rows.sortedS ys = true → G p = none → Φ (.ref p) (gup G p (.lst (ys.map T.str)))
    | some (.fdic _ _ kvs) => ∃ ss : List Str, kvs.map (·.1) = ss.map T.str ∧ ss.length < 64 ∧ ∀ ys p, ys.Perm ss → PyProof.Rows.sortedS ys = true → G p = none → Φ (.ref p) (gup G p (.lst (ys.map T.str)))
    | _ => False)
  | _ => False
theorem strs_rel {K : Fr0} {H : Hp} : ∀ ss : List Str, RelL K H (ss.map V.str) (ss.map T.str)
  | [] => .nil
  | s :: ss => .cons (.str s) (strs_rel ss)
theorem RelD.strKeys {K : Fr0} {H : Hp} : ∀ {vs : List (Key × V)} {ts : List (T × T)} {ss : List Str}, RelD K H vs ts → ts.map (·.1) = ss.map T.str → vs.map (·.1) = ss.map Sum.inr
  | _, _, [], .nil, _ => rfl
  | _, _, [], .cons _ _, e => by simp at e
  | _, _, _ :: _, .nil, e => by simp at e
  | _, _, s :: ss, .cons (k := k) r rs, e => by
    simp only [List.map_cons, List.cons.injEq] at e ⊢
    refine ⟨?_, RelD.strKeys rs e.2⟩
    cases k with
    | inl i => cases e.1
    | inr x =>
      have := e.1
      simp only [kT, T.str.injEq] at this
      rw [this]
theorem b_sorted (hc : X.calm = true) : CallR X (.builtin "sorted") (lowC X.K en sortT) := by
  refine CallR.weak (CallR.or cr_sortedS (call_sortedD hc)) fun xs H Q ⟨ts, G, Φ, r, g, q, kk⟩ => ?_
  unfold sortT at q
  split at q
  · cases r with
    | cons h1 h2 =>
      cases h1
      cases h2
      split at q
      · rename_i xs e1
        obtain ⟨ss, rfl, hl, q⟩ := q
        obtain ⟨vs, h1, r1⟩ := g.obj _ _ e1
        have e := r1.strs
        subst e
        refine .inl ⟨_, ss, rfl, SqL.of h1, hl, fun ys p hp1 hs hp => ?_⟩
        obtain ⟨g2, s2⟩ := lst_laid g hp (strs_rel ys)
        exact kk _ _ _ _ (q ys p hp1 hs (g.fresh hp)) (.ref p) g2 s2
      · rename_i kvs e1
        obtain ⟨ss, e, hl, q⟩ := q
        obtain ⟨vs, h1, r1⟩ := g.obj _ _ e1
        refine .inr ⟨_, vs, ss, rfl, .inl h1, r1.strKeys e, hl, fun ys p hp1 hs hp => ?_⟩
        obtain ⟨g2, s2⟩ := lst_laid g hp (strs_rel ys)
        exact kk _ _ _ _ (q ys p hp1 hs (g.fresh hp)) (.ref p) g2 s2
      · rename_i ob vs kvs e1
        obtain ⟨ss, e, hl, q⟩ := q
        obtain ⟨h1, r1⟩ := g.obj _ _ e1
        refine .inr ⟨_, vs, ss, rfl, .inr ⟨_, h1⟩, r1.strKeys e, hl, fun ys p hp1 hs hp => ?_⟩
        obtain ⟨g2, s2⟩ := lst_laid g hp (strs_rel ys)
        exact kk _ _ _ _ (q ys p hp1 hs (g.fresh hp)) (.ref p) g2 s2
      · exact q.elim
  · exact q.elim
/-- dict of a list of pairs, of a dict -/
def pairsT : List T → Option (List (T × T))
  | [] => some []
  | .tup [k, v] :: r => (match keyT k, pairsT r with
    | some _, some ps => some ((k, v) :: ps)
    | _, _ => none)
  | _ => none
def dmerge (kvs more : List (T × T)) : List (T × T) := more.foldl (fun acc kv => dput acc kv.1 kv.2) kvs
def dictT : RLT := fun ts G Φ => match ts with
  | [.ref a] => (match G a with
    | some (.lst xs) => (match pairsT xs with
      | some ps => ∀ p, G p = none → Φ (.ref p) (gup G p (.dic (dmerge [] ps)))
      | none => False)
    | some (.dic kvs) => ∀ p, G p = none → Φ (.ref p) (gup G p (.dic kvs))
    | _ => False)
  | _ => False
theorem RelD.merge {K : Fr0} {H : Hp} {ms : List (Key × V)} {ns : List (T × T)} (m : RelD K H ms ns) : ∀ {vs : List (Key × V)} {ts : List (T × T)}, RelD K H vs ts → RelD K H (mergeK vs ms) (dmerge ts ns) := by
  induction m with
  | nil => intro vs ts r; exact r
  | cons h hs ih => intro vs ts r; exact ih (r.put h)
theorem pairs_rel {K : Fr0} {H : Hp} : ∀ {xs : List T} {vs : List V} {ps : List (T × T)}, RelL K H vs xs → pairsT xs = some ps →
    ∃ (as : List Addr) (kvs : List (Key × V)), vs = as.map V.ref ∧ Paired (fun p kv => SqT K H p [kV kv.1, kv.2]) as kvs ∧ RelD K H kvs ps
  | [], _, _, .nil, e => by
    simp only [pairsT, Option.some.injEq] at e
    subst e
    exact ⟨[], [], rfl, .nil, .nil⟩
  | x :: xs, _, ps, .cons (v := v) h hs, e => by
    unfold pairsT at e
    split at e
    · rename_i heq
      cases heq
    · rename_i k t r heq
      simp only [List.cons.injEq] at heq
      obtain ⟨h1, h2⟩ := heq
      subst h1 h2
      split at e
      · rename_i k0 qs ek ep
        cases e
        obtain ⟨as, kvs, e1, e2, e3⟩ := pairs_rel hs ep
        have eu := keyT_kT ek
        subst eu
        cases h with
        | tup hq rs =>
          cases rs with
          | cons r1 rs =>
            cases rs with
            | cons r2 rs =>
              cases rs
              have ek := r1.key
              subst ek
              exact ⟨_ :: as, (k0, _) :: kvs, by rw [e1]; rfl, .cons hq e2, .cons r2 e3⟩
      · cases e
    · cases e
theorem dic_laid {K : Fr0} {H : Hp} {G : Gp} {p : Addr} {vs : List (Key × V)} {ts : List (T × T)} (g : HRel K en H G) (hp : H p = none) (r : RelD K H vs ts) : HRel K en (L2.upd H p (.dK vs)) (gup G p (.dic ts)) ∧ Step H G (L2.upd H p (.dK vs)) (gup G p (.dic ts)) := by
  have hp' : ∀ ho, Stay K H (L2.upd H p ho) := fun ho => (g.laid (ho := ho) hp).2.2
  obtain ⟨g1, s1, st⟩ := g.upd (a := p) (ho := .dK vs) (o := .dic ts) (.inl hp) (fun n z => by cases z) ⟨vs, upd_same, r.stay (hp' _)⟩
  exact ⟨g1, s1⟩
theorem b_dict (hc : X.calm = true) : CallR X (.type "dict") (lowC X.K en dictT) := by
  refine CallR.weak (CallR.or (call_dictP hc) call_dictD) fun xs H Q ⟨ts, G, Φ, r, g, q, kk⟩ => ?_
  unfold dictT at q
  split at q
  · cases r with
    | cons h1 h2 =>
      cases h1
      cases h2
      split at q
      · rename_i xs e1
        split at q
        · rename_i ps e2
          obtain ⟨vs, h1, r1⟩ := g.obj _ _ e1
          obtain ⟨as, kvs, e3, e4, e5⟩ := pairs_rel r1 e2
          subst e3
          refine .inl ⟨_, as, kvs, rfl, SqL.of h1, e4, fun p hp => ?_⟩
          obtain ⟨g2, s2⟩ := dic_laid g hp (RelD.merge e5 .nil)
          exact kk _ _ _ _ (q p (g.fresh hp)) (.ref p) g2 s2
        · exact q.elim
      · rename_i kvs e1
        obtain ⟨vs, h1, r1⟩ := g.obj _ _ e1
        refine .inr ⟨_, vs, rfl, .inl h1, fun p hp => ?_⟩
        obtain ⟨g2, s2⟩ := dic_laid g hp r1
        exact kk _ _ _ _ (q p (g.fresh hp)) (.ref p) g2 s2
      · exact q.elim
  · exact q.elim

/-! ### methods of lists and texts -/
def tyT (ty : String) (t : T) (G : Gp) : Prop := match t with
  | .str _ => ty = "str"
  | .ref a => (match G a with
    | some (.lst _) => ty = "list"
    | some (.dic _) => ty = "dict"
    | _ => False)
  | _ => False
def lBM (ty : String) (r : RMT) (la : LE) (l : LA) : LE := fun S G Φ => la S G fun t G1 => tyT ty t G1 ∧ l S G1 fun ts G2 => r t ts G2 Φ
theorem MtR.weak {id : String} {r r' : V → List V → Hp → VK → Prop} (h : MtR X id r) (w : ∀ x xs H Q, r' x xs H Q → r x xs H Q) : MtR X id r' := fun pins s σ H x xs v us Q I rx rs q => h pins s σ H x xs v us Q I rx rs (w x xs H Q q)
theorem tyT_ok {K : Fr0} {H : Hp} {G : Gp} {t : T} {v : V} {ty : String} (g : HRel K en H G) (r : Rel K H v t) (h : tyT ty t G) : tyV K ty v H := by
  cases r with
  | str _ => exact h
  | ref a =>
    simp only [tyT] at h
    split at h
    · rename_i xs e
      obtain ⟨vs, h1, _⟩ := g.obj _ _ e
      exact .inl ⟨h, vs, SqL.of h1⟩
    · rename_i xs e
      obtain ⟨vs, h1, _⟩ := g.obj _ _ e
      exact .inr (.inr (.inl ⟨h, .inl ⟨vs, h1⟩⟩))
    · exact h.elim
  | _ => exact h.elim
theorem e_bm {r : RMT} {ty id : String} {name : Str} (pa : PlainAttrs ty) (slot : Slot ty name id) (hty : typeOf (.builtin id) = pure (.type "method_descriptor")) (hm : MtR X id (lowM X.K en r)) (ho : E en X o la) (ha : Ea en X (e :: es) l)
    (hbase : attributeBase o name X.env (eval o X.env) = eval o X.env := by rfl)
    (hfew : ((backTo cpos (starEach (e :: es) X.env)).all (fun x => !x.1) && (backToKw cpos (keywordEach [] X.env)).all (fun x => x.1.isSome)
      && decide ((e :: es).length + ([] : List Keyword).length + (if ([] : List Keyword).isEmpty then 0 else 1) < 30)) = true := by rfl)
    (hline : (apos.endLine == cpos.line) = true := by rfl) (hs : starEach (e :: es) X.env = (false, eval e X.env) :: starEach es X.env := by rfl) (hplain : (backTo cpos (starEach es X.env)).any (·.1) = false := by rfl) :
    E en X (.Call (.Attribute o name apos) (e :: es) [] cpos) (lBM ty r la l) := by
  refine PE.weak (pe_bm pa slot hty hm ho ha hbase hfew hline hs hplain) fun σ H Q ⟨S, G, Φ, s, g, q, kk⟩ => ?_
  refine ⟨S, G, _, s, g, q, fun t G1 v H1 q1 r1 g1 s1 => ⟨tyT_ok g1 r1 q1.1, ?_⟩⟩
  refine ⟨S, G1, _, s.stay (s1.stay g), g1, q1.2, fun ts G2 vs H2 q2 r2 g2 s2 => ?_⟩
  exact ⟨t, ts, G2, Φ, r1.stay (s2.stay g1), r2, g2, q2, fun t' G' v' H' a b c d => kk t' G' v' H' a b c ((s1.trans s2).trans d)⟩
theorem e_bm0 {r : RMT} {ty id : String} {name : Str} (pa : PlainAttrs ty) (slot : Slot ty name id) (hty : typeOf (.builtin id) = pure (.type "method_descriptor")) (hm : MtR X id (lowM X.K en r)) (ho : E en X o la)
    (hbase : attributeBase o name X.env (eval o X.env) = eval o X.env := by rfl) (hline : (apos.endLine == cpos.line) = true := by rfl) : E en X (.Call (.Attribute o name apos) [] [] cpos) (lBM ty r la lNil) := by
  refine PE.weak (pe_bm0 pa slot hty hm ho hbase hline) fun σ H Q ⟨S, G, Φ, s, g, q, kk⟩ => ?_
  refine ⟨S, G, _, s, g, q, fun t G1 v H1 q1 r1 g1 s1 => ⟨tyT_ok g1 r1 q1.1, ?_⟩⟩
  exact ⟨t, [], G1, Φ, r1, .nil, g1, q1.2, fun t' G' v' H' a b c d => kk t' G' v' H' a b c (s1.trans d)⟩
/-- a list is changed -/
theorem lst_upd {K : Fr0} {H : Hp} {G : Gp} {p : Addr} {vs : List V} {ts ts0 : List T} (g : HRel K en H G) (e : G p = some (.lst ts0)) (r : RelL K H vs ts) : HRel K en (L2.upd H p (.lst vs)) (gup G p (.lst ts)) ∧ Step H G (L2.upd H p (.lst vs)) (gup G p (.lst ts)) ∧ Stay K H (L2.upd H p (.lst vs)) :=
  g.upd (a := p) (ho := .lst vs) (o := .lst ts) (.inr ⟨_, e, fun n z => by cases z⟩) (fun n z => by cases z) ⟨vs, upd_same, RelL.stay (stayL g e (fun n z => by cases z)) r⟩
def appT : RMT := fun t ts G Φ => match t, ts with
  | .ref a, [u] => (match G a with
    | some (.lst xs) => xs.length < sizeLine ∧ Φ .non (gup G a (.lst (xs ++ [u])))
    | _ => False)
  | _, _ => False
theorem m_append : MtR X "list.append" (lowM X.K en appT) := by
  refine MtR.weak (show MtR X "list.append" rAppend from mt_append) fun x xs H Q ⟨t, ts, G, Φ, rt, rs, g, q, kk⟩ => ?_
  unfold appT at q
  split at q
  · split at q
    · rename_i xs e1
      cases rt
      cases rs with
      | cons r1 r2 =>
        cases r2
        obtain ⟨vs, h1, r3⟩ := g.obj _ _ e1
        obtain ⟨g2, s2, _⟩ := lst_upd g e1 (r3.app (.cons r1 .nil))
        exact ⟨_, vs, _, rfl, rfl, h1, by rw [r3.length]; exact q.1, kk _ _ _ _ q.2 .non g2 s2⟩
    · exact q.elim
  · exact q.elim
def extT : RMT := fun t ts G Φ => match t, ts with
  | .ref a, [.ref b] => (match G a, G b with
    | some (.lst xs), some (.lst ys) => xs.length + ys.length ≤ sizeLine ∧ Φ .non (gup G a (.lst (xs ++ ys)))
    | _, _ => False)
  | _, _ => False
theorem m_extend : MtR X "list.extend" (lowM X.K en extT) := by
  refine MtR.weak (show MtR X "list.extend" rExtend from mt_extend) fun x xs H Q ⟨t, ts, G, Φ, rt, rs, g, q, kk⟩ => ?_
  unfold extT at q
  split at q
  · split at q
    · rename_i xs ys e1 e2
      cases rt
      cases rs with
      | cons r1 r2 =>
        cases r1
        cases r2
        obtain ⟨vs, h1, r3⟩ := g.obj _ _ e1
        obtain ⟨ws, h2, r4⟩ := g.obj _ _ e2
        obtain ⟨g2, s2, _⟩ := lst_upd g e1 (r3.app r4)
        exact ⟨_, _, vs, ws, rfl, rfl, h1, h2, by rw [r3.length, r4.length]; exact q.1, kk _ _ _ _ q.2 .non g2 s2⟩
    · exact q.elim
  · exact q.elim
/-- xs.pop(), xs.pop(i) with i from 0 on -/
def popT : RMT := fun t ts G Φ => match t, ts with
  | .ref a, [] => (match G a with
    | some (.lst xs) => (match xs[xs.length - 1]? with
      | some u => Φ u (gup G a (.lst xs.dropLast))
      | none => False)
    | _ => False)
  | .ref a, [.int i] => (match G a with
    | some (.lst xs) => (0 ≤ i ∧ i < 2 ^ 63) ∧ (match xs[i.toNat]? with
      | some u => Φ u (gup G a (.lst (xs.eraseIdx i.toNat)))
      | none => False)
    | _ => False)
  | _, _ => False
theorem RelL.dropLast {K : Fr0} {H : Hp} {vs : List V} {ts : List T} (r : RelL K H vs ts) : RelL K H vs.dropLast ts.dropLast := by
  rw [List.dropLast_eq_take, List.dropLast_eq_take, r.length]
  exact r.take _
theorem m_pop : MtR X "list.pop" (lowM X.K en popT) := by
  refine MtR.weak (MtR.or (show MtR X "list.pop" rPop from mt_pop) (show MtR X "list.pop" rPopAt from mt_popAt)) fun x xs H Q ⟨t, ts, G, Φ, rt, rs, g, q, kk⟩ => ?_
  unfold popT at q
  split at q
  · split at q
    · rename_i xs e1
      split at q
      · rename_i u e2
        cases rt
        cases rs
        obtain ⟨vs, h1, r3⟩ := g.obj _ _ e1
        obtain ⟨v, h2, r4⟩ := r3.get e2
        obtain ⟨g2, s2, st⟩ := lst_upd g e1 r3.dropLast
        exact .inl ⟨_, vs, v, rfl, rfl, h1, by rw [r3.length]; exact h2, kk _ _ _ _ q (r4.stay st) g2 s2⟩
      · exact q.elim
    · exact q.elim
  · split at q
    · rename_i xs e1
      obtain ⟨h0, q⟩ := q
      split at q
      · rename_i i _ _ u e2
        cases rt
        cases rs with
        | cons r1 r2 =>
          cases r1
          cases r2
          obtain ⟨vs, h1, r3⟩ := g.obj _ _ e1
          obtain ⟨v, h2, r4⟩ := r3.get e2
          obtain ⟨g2, s2, st⟩ := lst_upd g e1 (r3.erase i.toNat)
          have hlt : i.toNat < vs.length := (List.getElem?_eq_some_iff.mp h2).1
          exact .inr ⟨_, vs, i, i.toNat, v, rfl, rfl, h1, by omega, h0.2, seqIndex_of h0.1 (by omega), h2, kk _ _ _ _ q (r4.stay st) g2 s2⟩
      · exact q.elim
    · exact q.elim
  · exact q.elim
end
end Dv
namespace Dv
open PySem PySem.Spec PyProof.Rows L2

/-! ### a def's body gives its promise -/
def rtF (Φ : QT) : QT := fun t G' => ∃ G'', Sub G'' G' ∧ Φ t G''
abbrev bodyL (Φ : QT) : LEnds := { nx := fun _ G' => rtF Φ .non G', rt := rtF Φ }
def slots0 (N : List Str) (ts : List T) : S2 := ts.map some ++ List.replicate (N.length - ts.length) none
theorem srel_start {K : Fr0} {H : Hp} {N : List Str} {vs : List V} {ts : List T} (r : RelL K H vs ts) : SRel K H (L2.start N vs) (slots0 N ts) := by
  refine ⟨by unfold L2.start slots0; simp [r.length], fun i t e => ?_⟩
  unfold slots0 at e
  unfold L2.start
  by_cases h : i < ts.length
  · rw [List.getElem?_append_left (by simpa using h), List.getElem?_map] at e
    cases q : ts[i]? with
    | none => rw [q] at e; cases e
    | some u =>
      rw [q] at e
      cases e
      obtain ⟨v, e1, e2⟩ := r.get q
      exact ⟨v, by rw [List.getElem?_append_left (by rw [List.length_map, r.length]; exact h), List.getElem?_map, e1]; rfl, e2⟩
  · rw [List.getElem?_append_right (by simpa using h)] at e
    rw [List.getElem?_replicate] at e
    split at e <;> cases e
theorem ends_body {K : Fr0} {H : Hp} {G : Gp} {Φ : QT} {Q : VK} (k : ∀ t G' v H', Φ t G' → Rel K H' v t → HRel K [] H' G' → Step H G H' G' → Q v H') : EndsOk K [(H, G)] H G (bodyL Φ) { nx := fun _ H' => Q .non H', rt := Q } := by
  have fin : ∀ t G' v H', rtF Φ t G' → Rel K H' v t → HRel K [(H, G)] H' G' → Q v H' := fun t G' v H' ⟨G2, s, q⟩ r g =>
    k t G2 v H' q r (g.sub s).nil ((g.hist _ (List.mem_singleton.mpr rfl)).sub s)
  exact ⟨fun S' G' σ' H' q _ g _ => fin _ _ _ _ q .non g, fun t G' v H' q r g _ => fin _ _ _ _ q r g, fun _ _ _ _ q => q.elim, fun _ _ _ _ q => q.elim⟩
section
variable {P : Program} {w : World} {K : Fr0} {mg : Str → Option Value} {base : Heap} {x qual : Str} {st : Stmt} {f : Addr} {fd : FuncData} {N ps : List Str} {k : Nat} {sp : Sp2}
/-- a body's context -/
abbrev bx (P : Program) (w : World) (K : Fr0) (mg : Str → Option Value) (base : Heap) (N : List Str) (qual : Str) (scope : Scope) (f : Addr) (cdv : Value) (A : Around) (outer : List Env) (s : Shared) (H : Hp) (E : XK) : Cx :=
  cxOf (L2.CX P w) P w K mg base N qual scope f cdv A outer s H E
/-- what of an exception may be let out -/
abbrev OutX (K : Fr0) (H : Hp) (G : Gp) (E2 : XK2) (E : XK) : Prop := ∀ C fs G' H' cls d, E2 C fs G' → ERel K H' cls d C fs → HRel K [] H' G' → Step H G H' G' → E cls d H'
abbrev BodyOk (P : Program) (w : World) (K : Fr0) (mg : Str → Option Value) (base : Heap) (N : List Str) (qual : Str) (scope : Scope) (f : Addr) (k : Nat) (body : List Stmt) (sp : Sp2) : Prop :=
  ∀ (cdv : Value) (A : Around) (outer : List Env) (s : Shared) (H : Hp) (E : XK) (ts : List T) (G : Gp) (Φ : QT) (ΦE : XK2), Room k (A.deeper (envOfC qual scope s.heap.objs.size f cdv)) → OutX K H G ΦE E → sp ts G Φ ΦE →
    ∃ l, Ess [(H, G)] (bx P w K mg base N qual scope f cdv A outer s H E) body l ∧ l (bodyL Φ) (slots0 N ts) G
theorem body_run {scope : Scope} {body : List Stmt} (hbody : BodyOk P w K mg base N qual scope f k body sp) (cdv : Value) (A : Around) (outer : List Env) (s : Shared) (H : Hp) (vs : List V) (Q : VK) (E : XK)
    (hr : Room k (A.deeper (envOfC qual scope s.heap.objs.size f cdv))) (h : lowSp K sp vs H Q E) :
    ∃ t, PSs (bx P w K mg base N qual scope f cdv A outer s H E) body t ∧ t { nx := fun _ H' => Q .non H', rt := Q } (L2.start N vs) H := by
  obtain ⟨ts, G, Φ, ΦE, r, g, q, k1, k2⟩ := h
  obtain ⟨l, b, q2⟩ := hbody cdv A outer s H E ts G Φ ΦE hr k2 q
  exact ⟨_, b, slots0 N ts, G, bodyL Φ, srel_start r, g.enter, q2, ends_body k1⟩
theorem lowSp_len (len : ∀ ts G Φ ΦE, sp ts G Φ ΦE → ts.length = ps.length) : ∀ vs H Q E, lowSp K sp vs H Q E → vs.length = ps.length := fun vs H Q E ⟨ts, G, Φ, ΦE, r, _, q, _⟩ => r.length.trans (len _ _ _ _ q)
theorem fn_T (F : Fun K x qual st f fd) (S : FnScope N ps (defScope st)) (len : ∀ ts G Φ ΦE, sp ts G Φ ΦE → ts.length = ps.length) (hbody : BodyOk P w K mg base N qual (defScope st) f k (defBody st) sp) :
    FnOk P w K mg base (L2.CX P w) (k + 1) f fd ps (lowSp K sp) := F.okX S (lowSp_len len) fun cdv A outer s H vs Q E hr h => body_run hbody cdv A outer s H vs Q E hr h
theorem fn_TD {params : Arguments} {body : List Stmt} {scope : Scope} {dvs : List V} {kws : List (Str × V)} (F : FunD K x qual params body scope dvs kws f fd) (S : FnScope N ps scope) (len : ∀ ts G Φ ΦE, sp ts G Φ ΦE → ts.length = ps.length)
    (hbody : BodyOk P w K mg base N qual scope f k body sp) : FnOk P w K mg base (L2.CX P w) (k + 1) f fd ps (lowSp K sp) := F.ok S (lowSp_len len) fun cdv A outer s H vs Q E hr h => body_run hbody cdv A outer s H vs Q E hr h
/-- another promise -/
theorem FnOk.impT {CX : CXT} {sp' : Sp2} (F : FnOk P w K mg base CX k f fd ps (lowSp K sp)) (h : ∀ ts G Φ ΦE, sp' ts G Φ ΦE → sp ts G Φ ΦE) : FnOk P w K mg base CX k f fd ps (lowSp K sp') :=
  F.imp fun vs H Q E ⟨ts, G, Φ, ΦE, r, g, q, a, b⟩ => ⟨ts, G, Φ, ΦE, r, g, h _ _ _ _ q, a, b⟩
end
theorem Sub.gup {G : Gp} {a : Addr} {o : O} (h : G a = none) : Sub G (gup G a o) := fun b u e => by
  rw [gup_ne (fun z => by rw [z, h] at e; cases e)]
  exact e
theorem Sub.trans {G G1 G2 : Gp} (a : Sub G G1) (b : Sub G1 G2) : Sub G G2 := fun x o e => b x o (a x o e)
/-- what is new is kept, what was made ahead is forgotten -/
theorem Sub.gup2 {G G' : Gp} {a : Addr} {o : O} (h : Sub G G') : Sub (Dv.gup G a o) (Dv.gup G' a o) := fun b u e => by
  by_cases z : b = a
  · subst z; rw [gup_same] at e ⊢; exact e
  · rw [gup_ne z] at e ⊢; exact h b u e
theorem rtF.of {Φ : QT} {t : T} {G : Gp} (h : Φ t G) : rtF Φ t G := ⟨G, Sub.refl G, h⟩
theorem rtF.sub {Φ : QT} {t : T} {G G' : Gp} (s : Sub G G') (h : Φ t G) : rtF Φ t G' := ⟨G, s, h⟩
theorem rtF.up {Φ : QT} {t : T} {G G' : Gp} (h : rtF Φ t G) (s : Sub G G') : rtF Φ t G' := let ⟨G0, s0, q⟩ := h; ⟨G0, s0.trans s, q⟩

/-! ### globals, classes as values, isinstance -/
section
variable {X : Cx} {CX : CXT} {a b c e o iter tg elt kx vx : Expr} {es ifs : List Expr} {la lb lv te tk tv : LE} {tt : LT} {l lk : LA} {pos p p2 apos cpos spos py : Pos} {k n : Nat} {x m y : Str} {w : LI} {f : T → S2 → Option S2} {vs : List Nat} {scope : Scope} {own : List (Str × Nat)}
def lGlob (t : T) : LE := fun _ G Φ => Φ t G
/-- a name of the module, or of the built-ins, whose value stands -/
theorem e_glob {t : T} {v : V} {u : Value} (r : ∀ H, Rel X.K H v t) (hg : Gl X x := by rfl) (hm : X.mg x = some u) (rv : RelV v u) (hd : (x == ("__debug__" : Str)) = false := by decide) : E en X (.Name x pos) (lGlob t) :=
  PE.weak (pe_glob hg hm rv hd) fun σ H Q ⟨S, G, Φ, s, g, q, k⟩ => k t G v H q (r H) g (Step.refl H G)
end
end Dv
namespace Dv
open PySem PySem.Spec PyProof.Rows L2
section
variable {X : Cx} {CX : CXT} {a b c e o iter tg elt kx vx : Expr} {es ifs : List Expr} {la lb lv te tk tv : LE} {tt : LT} {l lk : LA} {pos p p2 apos cpos spos py : Pos} {k n : Nat} {x m y : Str} {w : LI} {f : T → S2 → Option S2} {vs : List Nat} {scope : Scope}
/-! ### comprehensions -/
def slotsOf (own : List (Str × Nat)) : List Nat := own.map fun z => z.2
theorem slotsOf_nil : slotsOf [] = [] := rfl
theorem slotsOf_cons {p : Str × Nat} {r : List (Str × Nat)} : slotsOf (p :: r) = p.2 :: slotsOf r := rfl
abbrev AtBlk (X : Cx) (scope : Scope) (P : Cx → Prop) : Prop := ∀ (s : Shared) (H : Hp) (C : Addr) (cl : List (Str × Addr)) (fp : List Addr), P (X.blk s H scope (compEnvC scope cl C X.env) fp)
theorem e_lc (own : List (Str × Nat)) (hN : X.N.Nodup) (hi : Ei en X tg iter w) (hg : AtBlk X scope fun Y => Eg Y tg f (slotsOf own)) (ht : AtBlk X scope fun Y => Ets en Y ifs tt) (he : AtBlk X scope fun Y => E en Y elt te)
    (hc : X.calm = true := by rfl) (ok : blkC X.N X.env.scope scope own = true := by rfl) (hs : ∀ x, foldedSetIterable iter X.env x = pure x := by intro _; rfl) :
    E en X (.ListComp elt [⟨tg, iter, ifs, 0⟩] scope pos) (lLc w f (slotsOf own) tt te) :=
  PE.weak (pe_lc (g := lowN X.K f (slotsOf own)) (tt := lowT X.K en tt) (te := low X.K en te) hc hN hi (blkOk_by ok) hg ht he hs) low_lc
theorem s_setLc (own : List (Str × Nat)) {j : Nat} (hN : X.N.Nodup) (hi : Ei en X tg iter w) (hg : AtBlk X scope fun Y => Eg Y tg f (slotsOf own)) (ht : AtBlk X scope fun Y => Ets en Y ifs tt) (he : AtBlk X scope fun Y => E en Y elt te)
    (hy : X.N[j]? = some y := by rfl) (hyl : X.env.scope.names.lookup y = some .local := by rfl) (hc : X.calm = true := by rfl) (ok : blkC X.N X.env.scope scope own = true := by rfl) (hs : ∀ x, foldedSetIterable iter X.env x = pure x := by intro _; rfl)
    (hsw : swapsWith (.ListComp elt [⟨tg, iter, ifs, 0⟩] scope pos) (some (.Name y py)) spos.line X.env = pure true := by rfl) :
    Es en X (.Assign [.Name y py] (.ListComp elt [⟨tg, iter, ifs, 0⟩] scope pos) spos) (lAsg (lLc w f (slotsOf own) tt te) (gN j)) :=
  PS.weak (ps_setLc (g := lowN X.K f (slotsOf own)) (tt := lowT X.K en tt) (te := low X.K en te) (i := j) hc hN hy hyl hsw hi (blkOk_by ok) hg ht he hs) fun D σ H ⟨S, G, L, s, g, q, ends⟩ => by
    refine low_lc σ H _ ⟨S, G, _, s, g, q, fun t G1 v H1 q1 r1 g1 s1 => ?_⟩
    simp only [gN] at q1
    exact ends.nx _ G1 _ H1 q1 ((s.stay (s1.stay g)).set r1 j) g1 s1
theorem e_dc (own : List (Str × Nat)) (hN : X.N.Nodup) (hi : Ei en X tg iter w) (hg : AtBlk X scope fun Y => Eg Y tg f (slotsOf own)) (ht : AtBlk X scope fun Y => Ets en Y ifs tt) (hk : AtBlk X scope fun Y => E en Y kx tk) (hv : AtBlk X scope fun Y => E en Y vx tv)
    (hc : X.calm = true := by rfl) (ok : blkC X.N X.env.scope scope own = true := by rfl) (hs : ∀ x, foldedSetIterable iter X.env x = pure x := by intro _; rfl) :
    E en X (.DictComp kx vx [⟨tg, iter, ifs, 0⟩] scope pos) (lDc w f (slotsOf own) tt tk tv) :=
  PE.weak (pe_dc (g := lowN X.K f (slotsOf own)) (tt := lowT X.K en tt) (tk := low X.K en tk) (tv := low X.K en tv) hc hN hi (blkOk_by ok) hg ht hk hv hs) low_dc

/-! ### isinstance, one built-in type -/
def tyS (t : T) (G : Gp) : Option String := match t with
  | .non => some "NoneType" | .bl _ => some "bool" | .int _ => some "int" | .str _ => some "str" | .tup _ => some "tuple" | .ty _ => none | .ptup _ => some "tuple"
  | .ref a => match G a with
    | some (.lst _) => some "list"
    | some (.dic _) => some "dict"
    | some (.fdic _ _ _) => some "dict"
    | _ => none
def subS (a b : String) : Bool := a == b || (a == "bool" && b == "int")
def tysS : List String := ["bool", "int", "str", "tuple", "list", "dict"]
theorem kit_sub {m n : String} (hm : m ∈ "NoneType" :: tysS) (hn : n ∈ tysS) : kitB m n = some (subS m n) := by
  have h : ∀ m ∈ "NoneType" :: tysS, ∀ n ∈ tysS, kitB m n = some (subS m n) := by decide +kernel
  exact h m hm n hn
theorem tyS_ok {K : Fr0} {H : Hp} {G : Gp} {t : T} {v : V} {m : String} (g : HRel K en H G) (r : Rel K H v t) (h : tyS t G = some m) : TyX K H v (.type m) ∧ m ∈ "NoneType" :: tysS := by
  cases r with
  | non => cases h; exact ⟨.base .non, by decide⟩
  | bl b => cases h; exact ⟨.base (.bl b), by decide⟩
  | int i => cases h; exact ⟨.base (.int i), by decide⟩
  | str x => cases h; exact ⟨.base (.str x), by decide⟩
  | ty n => cases h
  | tup q _ =>
    cases h
    refine ⟨?_, by decide⟩
    rcases q with (q | ⟨o, q⟩) | ⟨o, its, n, q, c, _⟩
    · exact .base (.tup q)
    · exact .fTuple q
    · exact .kTuple q c
  | ptup q _ _ => cases h; exact ⟨.fTuple q, by decide⟩
  | ref a =>
    simp only [tyS] at h
    split at h
    · rename_i xs e
      cases h
      obtain ⟨vs, h1, _⟩ := g.obj _ _ e
      exact ⟨.base (.lst h1), by decide⟩
    · rename_i xs e
      cases h
      obtain ⟨vs, h1, _⟩ := g.obj _ _ e
      exact ⟨.base (.dK h1), by decide⟩
    · rename_i ob vs xs e
      cases h
      obtain ⟨h1, _⟩ := g.obj _ _ e
      exact ⟨.fDict h1, by decide⟩
    · cases h
def isiT : RLT := fun ts G Φ => match ts with
  | [t, .ty n] => n ∈ tysS ∧ (match tyS t G with
    | some m => Φ (.bl (subS m n)) G
    | none => False)
  | _ => False
theorem b_isi : CallR X (.builtin "isinstance") (lowC X.K en isiT) := by
  intro pins s σ H xs us Q I r ⟨ts, G, Φ, rs, g, q, kk⟩
  unfold isiT at q
  split at q
  · rename_i t n
    obtain ⟨hn, q⟩ := q
    split at q
    · rename_i m e
      cases rs with
      | cons r1 r2 =>
        cases r2 with
        | cons r2 r3 =>
          cases r2
          cases r3
          obtain ⟨h1, h2⟩ := tyS_ok g r1 e
          exact call_isi pins s σ H _ us Q I r ⟨_, _, _, _, _, rfl, .ty n, h1, kit_ty (kit_sub h2 hn), kk _ _ _ _ q (.bl _) g (Step.refl H G)⟩
    · exact q.elim
  · exact q.elim
/-- a built-in type's name as a value -/
theorem e_ty {n : String} (hg : Gl X x := by rfl) (hm : X.mg x = none) (hv : bootBuiltins x = some (.type n) := by rfl) (hn : x ≠ "__name__" := by decide) (hd : (x == ("__debug__" : Str)) = false := by decide) : E en X (.Name x pos) (lGlob (.ty n)) :=
  PE.weak (pe_bltn (v := .ty n) hg hm hv rfl hn hd) fun σ H Q ⟨S, G, Φ, s, g, q, k⟩ => k (.ty n) G (.ty n) H q (.ty n) g (Step.refl H G)

/-! ### {k: v, ..} -/
abbrev LPs := S2 → Gp → (List (T × T) → Gp → Prop) → Prop
def lDisp (lp : LPs) : LE := fun S G Φ => lp S G fun ps G1 => (ps.all fun kv => (keyT kv.1).isSome) = true ∧ ps.length ≤ 15 ∧ ∀ a, G1 a = none → Φ (.ref a) (gup G1 a (.dic (dmerge [] ps)))
def lPNil : LPs := fun _ G Φ => Φ [] G
def lPCons (lk lv : LE) (lr : LPs) : LPs := fun S G Φ => lk S G fun t G1 => lv S G1 fun u G2 => lr S G2 fun ps G3 => Φ ((t, u) :: ps) G3
inductive RelP (K : Fr0) (H : Hp) : List (V × V) → List (T × T) → Prop
  | nil : RelP K H [] []
  | cons {x y : V} {t u : T} {ps : List (V × V)} {qs : List (T × T)} : Rel K H x t → Rel K H y u → RelP K H ps qs → RelP K H ((x, y) :: ps) ((t, u) :: qs)
theorem RelP.stay {K : Fr0} {H H' : Hp} (st : Stay K H H') : ∀ {vs : List (V × V)} {ts : List (T × T)}, RelP K H vs ts → RelP K H' vs ts
  | _, _, .nil => .nil
  | _, _, .cons r r2 t => .cons (r.stay st) (r2.stay st) (RelP.stay st t)
theorem RelP.keys {K : Fr0} {H : Hp} : ∀ {vs : List (V × V)} {ts : List (T × T)}, RelP K H vs ts → (ts.all fun kv => (keyT kv.1).isSome) = true → ∃ kvs : List (Key × V), vs = kvs.map (fun kv => (kV kv.1, kv.2)) ∧ RelD K H kvs ts
  | _, _, .nil, _ => ⟨[], rfl, .nil⟩
  | _, _, .cons (y := y) r r2 t, h => by
    rw [List.all_cons, Bool.and_eq_true] at h
    obtain ⟨k0, ek⟩ := Option.isSome_iff_exists.mp h.1
    have eu := keyT_kT ek
    simp only at eu
    subst eu
    obtain ⟨kvs, e, q⟩ := RelP.keys t h.2
    exact ⟨(k0, y) :: kvs, by rw [e, r.key]; rfl, .cons r2 q⟩
theorem RelP.length {K : Fr0} {H : Hp} : ∀ {vs : List (V × V)} {ts : List (T × T)}, RelP K H vs ts → vs.length = ts.length
  | _, _, .nil => rfl
  | _, _, .cons _ _ t => congrArg Nat.succ (RelP.length t)
def lowP (K : Fr0) (en : En) (lp : LPs) (σ : L2.St) (H : Hp) (Q : List (V × V) → Hp → Prop) : Prop := ∃ S G Φ, SRel K H σ S ∧ HRel K en H G ∧ lp S G Φ ∧ ∀ ps G' vs H', Φ ps G' → RelP K H' vs ps → HRel K en H' G' → Step H G H' G' → Q vs H'
structure Ep (en : En) (X : Cx) (pos : Pos) (keys : List (Option Expr)) (values : List Expr) (lp : LPs) : Prop where
  ex : ∃ trs, PPs X pos keys values trs ∧ ∀ σ H Q, lowP X.K en lp σ H Q → tPairs trs σ H Q
theorem p_nil : Ep en X pos [] [] lPNil := ⟨[], pps_nil, fun σ H Q ⟨S, G, Φ, s, g, q, k⟩ => k [] G [] H q .nil g (Step.refl H G)⟩
theorem p_cons {ks : List (Option Expr)} {lr : LPs} (hk : E en X kx tk) (hv : E en X vx tv) (hr : Ep en X pos ks es lr) : Ep en X pos (some kx :: ks) (vx :: es) (lPCons tk tv lr) := by
  obtain ⟨trs, h, w⟩ := hr.ex
  refine ⟨(low X.K en tk, low X.K en tv) :: trs, pps_cons hk hv h, fun σ H Q ⟨S, G, Φ, s, g, q, k⟩ => ?_⟩
  refine ⟨S, G, _, s, g, q, fun t G1 v H1 q1 r1 g1 s1 => ?_⟩
  refine ⟨S, G1, _, s.stay (s1.stay g), g1, q1, fun u G2 y H2 q2 r2 g2 s2 => ?_⟩
  refine w _ _ _ ⟨S, G2, _, (s.stay (s1.stay g)).stay (s2.stay g1), g2, q2, fun ps G3 vs H3 q3 r3 g3 s3 => ?_⟩
  exact k _ G3 _ H3 q3 (.cons ((r1.stay (s2.stay g1)).stay (s3.stay g2)) (r2.stay (s3.stay g2)) r3) g3 ((s1.trans s2).trans s3)
theorem hen_of {K : Fr0} {H : Hp} {G : Gp} {D : Addr} (g : HRel K en H G) (hD : H D = none) : ∀ e ∈ en, e.1 D = none := by
  intro e he
  cases z : e.1 D with
  | none => rfl
  | some u =>
    obtain ⟨u', e'⟩ := (g.hist e he).al D u z
    rw [hD] at e'
    cases e'
theorem e_disp {keys : List (Option Expr)} {lp : LPs} (h : Ep en X pos keys es lp) (hall : keys.all (·.isSome) = true := by rfl) (hl : keys.length = es.length := by rfl) (h0 : keys ≠ [] := by simp) (h15 : keys.length ≤ 15 := by decide) :
    E en X (.Dict keys es pos) (lDisp lp) := by
  obtain ⟨trs, hp, wk⟩ := h.ex
  refine PE.weak (pe_disp hp hall hl h0 h15) fun σ H Q ⟨S, G, Φ, s, g, q, k⟩ => ?_
  intro D hD
  obtain ⟨g1, t1, st1⟩ := g.laid (ho := .dK []) hD
  have no1 : ¬ Own (L2.upd H D (.dK [])) G D := fun z => not_own_new g hD ((own_upd (not_own_new g hD)).mp z)
  refine wk _ _ _ ⟨S, G, _, s.stay st1, g1, q, fun ps G2 vs H2 q2 r2 g2 s2 => ?_⟩
  obtain ⟨hk, hl15, q2⟩ := q2
  obtain ⟨hD2, no2⟩ := s2.fr D _ upd_same no1
  obtain ⟨kvs, e, rk⟩ := r2.keys hk
  have gD : G2 D = none := by
    cases z : G2 D with
    | none => rfl
    | some u => exact absurd (.inl ⟨u, z⟩) no2
  have hen := hen_of g hD
  obtain ⟨g3, st3⟩ := g2.under (ho := .dK (mergeK [] kvs)) no2 hD2 rfl hen
  have no3 : ¬ Own (L2.upd H2 D (.dK (mergeK [] kvs))) G2 D := fun z => no2 ((own_upd no2).mp z)
  refine ⟨hD2, kvs, e, by rw [rk.length]; exact hl15, k _ _ _ _ (q2 D gD) (.ref D) (g3.adopt no3 (fun n z => by cases z) ⟨_, upd_same, (RelD.merge (rk.stay st3) .nil)⟩ hen) ?_⟩
  exact ((t1.trans s2).under hD no2).adopt hD (fun n z => by cases z)
theorem e_dict0 : E en X (.Dict [] [] pos) (fun _ G Φ => ∀ a, G a = none → Φ (.ref a) (gup G a (.dic []))) := PE.weak pe_dnewK fun σ H Q ⟨S, G, Φ, s, g, q, k⟩ p hp => by
  obtain ⟨g2, s2⟩ := dic_laid g hp .nil
  exact k _ _ _ _ (q p (g.fresh hp)) (.ref p) g2 s2
end
end Dv
namespace Dv
open PySem PySem.Spec PyProof.Rows L2
section
variable {X : Cx} {CX : CXT} {a b c e o e1 : Expr} {es ifs : List Expr} {la lb lv lx : LE} {l lk : LA} {pos p p2 apos cpos spos py : Pos} {k n : Nat} {x m y : Str} {fd : FuncData} {f C : Addr} {ps ks : List Str} {sp : Sp2} {E2 : XK2} {kws : List Keyword} {g : List Value → List Value → List Value} {gV : List V → List V → List V} {gT : List T → List T → List T}
abbrev GoodT (K : Fr0) (gV : List V → List V → List V) (gT : List T → List T → List T) : Prop := ∀ H vs ts ws us, RelL K H vs ts → RelL K H ws us → RelL K H (gV vs ws) (gT ts us)
/-- f(e, .., k = v, ..), defaults behind -/
def lCallN (n m : Nat) (sp : Sp2) (gT : List T → List T → List T) (E2 : XK2) (l lk : LA) : LE := fun S G Φ => l S G fun ts G1 => lk S G1 fun us G2 => ts.length = n ∧ us.length = m ∧ sp (gT ts us) G2 Φ E2
theorem e_callN (F : FnOk X.prog X.w X.K X.mg X.base CX k f fd ps (lowSp X.K sp)) (hr : Room k X.A) (hm : X.mg x = some (.ref f)) (hk : PySem.W.keepIn X.K (.ref f) = true)
    (hb : KBn X.K fd ps n ks g gV) (hgT : GoodT X.K gV gT) (hx : Passes CX X (lowX X.K en E2))
    (ha : Ea en X (e :: es) l) (hkw : Ek en X kws lk) (hg : Gl X x := by rfl) (hall : (backToKw pos (keywordEach kws X.env)).all (·.1.isSome) = true := by rfl) (hks : (backToKw pos (keywordEach kws X.env)).filterMap (·.1) = ks := by rfl)
    (hdb : (x == ("__debug__" : Str)) = false := by decide) (he : starEach (e :: es) X.env = (false, eval e X.env) :: starEach es X.env := by rfl)
    (hpl : ((backTo pos (starEach (e :: es) X.env)).any (·.1) || (backToKw pos (keywordEach kws X.env)).any (·.1.isNone)) = false := by rfl) :
    E en X (.Call (.Name x p) (e :: es) kws pos) (lCallN n ks.length sp gT E2 l lk) := by
  refine PE.weak (pe_callN F hr hg hm hk hb hx ha hkw hall hks hdb he hpl) fun σ H Q ⟨S, G, Φ, s, g, q, kk⟩ => ?_
  refine ⟨S, G, _, s, g, q, fun ts G1 vs H1 q1 r1 g1 s1 => ?_⟩
  refine ⟨S, G1, _, s.stay (s1.stay g), g1, q1, fun us G2 ws H2 q2 r2 g2 s2 => ?_⟩
  refine ⟨by rw [r1.length]; exact q2.1, by rw [r2.length]; exact q2.2.1, gT ts us, G2, Φ, E2, hgT _ _ _ _ _ (r1.stay (s2.stay g1)) r2, g2.nil, q2.2.2, fun t G' v H' a b c d => kk t G' v H' a b (g2.back c d) ((s1.trans s2).trans d), fun C fs G' H' cls d a b c d' => ⟨C, fs, G', a, b, g2.back c d'⟩⟩
/-- C(e, .., k = v, ..) -/
def lMakeK (C : Addr) (n m : Nat) (sp : Sp2) (gT : List T → List T → List T) (E2 : XK2) (l lk : LA) : LE := fun S G Φ => l S G fun ts G1 => lk S G1 fun us G2 => ts.length = n ∧ us.length = m ∧ ∀ x, G2 x = none → sp (gT (.ref x :: ts) us) (gup G2 x (.ins C [])) (fun t G3 => t = .non ∧ Φ (.ref x) G3) E2
theorem e_makeK (M : Mk X.K C f) (F : FnOk X.prog X.w X.K X.mg X.base CX k f fd ps (lowSp X.K sp)) (hr : Room (k + 1) X.A) (hm : X.mg x = some (.ref C)) (hb : KBn X.K fd ps (n + 1) ks g gV) (hgT : GoodT X.K gV gT) (hx : Passes CX X (lowX X.K en E2))
    (ha : Ea en X (e :: es) l) (hkw : Ek en X kws lk) (hg : Gl X x := by rfl) (hall : (backToKw pos (keywordEach kws X.env)).all (·.1.isSome) = true := by rfl) (hks : (backToKw pos (keywordEach kws X.env)).filterMap (·.1) = ks := by rfl)
    (hdb : (x == ("__debug__" : Str)) = false := by decide) (he : starEach (e :: es) X.env = (false, eval e X.env) :: starEach es X.env := by rfl)
    (hpl : ((backTo pos (starEach (e :: es) X.env)).any (·.1) || (backToKw pos (keywordEach kws X.env)).any (·.1.isNone)) = false := by rfl) :
    E en X (.Call (.Name x p) (e :: es) kws pos) (lMakeK C n ks.length sp gT E2 l lk) := by
  refine PE.weak (pe_makeK M F hr hg hm hb hx ha hkw hall hks hdb he hpl) fun σ H Q ⟨S, G, Φ, s, g, q, kk⟩ => ?_
  refine ⟨S, G, _, s, g, q, fun ts G1 vs H1 q1 r1 g1 s1 => ?_⟩
  refine ⟨S, G1, _, s.stay (s1.stay g), g1, q1, fun us G2 ws H2 q2 r2 g2 s2 => ⟨by rw [r1.length]; exact q2.1, by rw [r2.length]; exact q2.2.1, fun y dy h1 h2 hne => ?_⟩⟩
  obtain ⟨g3, s3⟩ := made (C := C) g2 h1 h2 hne
  have st := s3.stay g2
  refine ⟨_, _, _, E2, hgT _ _ _ _ _ (.cons (.ref y) ((r1.stay (s2.stay g1)).stay st)) (r2.stay st), g3.nil, q2.2.2 y (g2.fresh h1), fun t G' v H' a b c d => ?_, fun C fs G' H' cls d a b c d' => ⟨C, fs, G', a, b, g3.back c d'⟩⟩
  obtain ⟨e1, a⟩ := a
  subst e1
  cases b
  exact ⟨rfl, kk _ G' _ H' a (.ref y) (g3.back c d) (((s1.trans s2).trans s3).trans d)⟩

/-! ### methods -/
def insT : RMT := fun t ts G Φ => match t, ts with
  | .ref a, [.int i, u] => (match G a with
    | some (.lst xs) => xs.length < sizeLine ∧ (0 ≤ i ∧ i < 2 ^ 63) ∧ Φ .non (gup G a (.lst (xs.take i.toNat ++ [u] ++ xs.drop i.toNat)))
    | _ => False)
  | _, _ => False
theorem m_insert : MtR X "list.insert" (lowM X.K en insT) := by
  refine MtR.weak mt_insert fun x xs H Q ⟨t, ts, G, Φ, rt, rs, g, q, kk⟩ => ?_
  unfold insT at q
  split at q
  · split at q
    · rename_i xs e1
      cases rt
      cases rs with
      | cons r1 r2 =>
        cases r1
        cases r2 with
        | cons r2 r4 =>
          cases r4
          obtain ⟨vs, h1, r3⟩ := g.obj _ _ e1
          obtain ⟨g2, s2, _⟩ := lst_upd g e1 (((r3.take _).app (.cons r2 .nil)).app (r3.drop _))
          exact ⟨_, vs, _, _, rfl, rfl, h1, by rw [r3.length]; exact q.1, q.2.1.1, q.2.1.2, kk _ _ _ _ q.2.2 .non g2 s2⟩
    · exact q.elim
  · exact q.elim
/-- the texts of a tuple -/
def strsT : List T → Option (List Str)
  | [] => some []
  | .str s :: r => (match strsT r with
    | some ss => some (s :: ss)
    | none => none)
  | _ => none
theorem strsT_map : ∀ {ts : List T} {ss : List Str}, strsT ts = some ss → ts = ss.map T.str
  | [], _, e => by cases e; rfl
  | t :: r, _, e => by
    cases t <;> simp only [strsT, reduceCtorEq] at e
    split at e
    · rename_i ss e2
      cases e
      rw [strsT_map e2]; rfl
    · cases e
theorem strsT_of (ss : List Str) : strsT (ss.map T.str) = some ss := by
  induction ss with
  | nil => rfl
  | cons s r ih => simp only [List.map_cons, strsT, ih]
/-- t.index(x): the first place -/
def tixT : RMT := fun t ts G Φ => match t, ts with
  | .tup xs, [.str z] => (match strsT xs with
    | some ys => z ∈ ys ∧ Φ (.int (ys.idxOf z : Nat)) G
    | none => False)
  | _, _ => False
theorem m_tindex : MtR X "tuple.index" (lowM X.K en tixT) := by
  refine MtR.weak mt_tup_index fun x xs H Q ⟨t, ts, G, Φ, rt, rs, g, q, kk⟩ => ?_
  unfold tixT at q
  split at q
  · rename_i xs z
    split at q
    · rename_i ys e1
      obtain ⟨hz, q⟩ := q
      cases rt with
      | tup sq r3 =>
        cases rs with
        | cons r1 r2 =>
          cases r1
          cases r2
          have e2 := strsT_map e1
          subst e2
          have e3 := r3.strs
          subst e3
          refine ⟨_, ys, z, ys.idxOf z, rfl, rfl, sq, ?_, fun m hm e => ?_, kk _ _ _ _ q (.int _) g (Step.refl H G)⟩
          · have hl := List.idxOf_lt_length_of_mem hz
            rw [List.getElem?_eq_getElem hl]
            exact congrArg some (List.getElem_idxOf hl)
          · obtain ⟨h1, h2⟩ := List.getElem?_eq_some_iff.mp e
            have h3 := List.not_of_lt_findIdx (p := (· == z)) (xs := ys) (i := m) (by exact hm)
            rw [h2] at h3
            simp at h3
    · exact q.elim
  · exact q.elim
/-! d.get(k), d.get(k, x) -/
def getT (t u : T) (G : Gp) (Ψ : Option T → Prop) : Prop := match t with
  | .ref a => (match G a with
    | some (.dic kvs) => (match keyT u with
      | some _ => Ψ (dlook kvs u)
      | none => False)
    | some (.fdic _ _ kvs) => (match keyT u with
      | some _ => Ψ (dlook kvs u)
      | none => False)
    | _ => False)
  | _ => False
def isDT (t : T) (G : Gp) : Prop := match t with
  | .ref a => (match G a with
    | some (.dic _) => True
    | some (.fdic _ _ _) => True
    | _ => False)
  | _ => False
def lGet1 (ld lk : LE) : LE := fun S G Φ => ld S G fun t G1 => isDT t G1 ∧ lk S G1 fun u G2 => getT t u G2 fun r => Φ (r.getD .non) G2
def lGet2 (ld lk lx : LE) : LE := fun S G Φ => ld S G fun t G1 => isDT t G1 ∧ lk S G1 fun u G2 => lx S G2 fun z G3 => getT t u G3 fun r => Φ (r.getD z) G3
theorem isDT_ok {K : Fr0} {H : Hp} {G : Gp} {t : T} {v : V} (g : HRel K en H G) (r : Rel K H v t) (h : isDT t G) : ∃ a, v = .ref a ∧ t = .ref a ∧ IsD H a := by
  cases r with
  | ref a =>
    simp only [isDT] at h
    split at h
    · rename_i kvs e
      obtain ⟨vs, h1, _⟩ := g.obj _ _ e
      exact ⟨a, rfl, rfl, .inl ⟨vs, .inl h1⟩⟩
    · rename_i ob vs kvs e
      obtain ⟨h1, _⟩ := g.obj _ _ e
      exact ⟨a, rfl, rfl, .inl ⟨vs, .inr ⟨ob, h1⟩⟩⟩
    · exact h.elim
  | _ => exact h.elim
theorem getT_ok {K : Fr0} {H : Hp} {G : Gp} {a : Addr} {u : T} {w : V} {Ψ : Option T → Prop} (g : HRel K en H G) (r : Rel K H w u) (h : getT (.ref a) u G Ψ) : ∃ r o, Ψ r ∧ DGet H a w o ∧ ((r = none ∧ o = none) ∨ ∃ t v, r = some t ∧ o = some v ∧ Rel K H v t) := by
  simp only [getT] at h
  have fin : ∀ {kvs : List (Key × V)} {ts : List (T × T)}, Rd H a (.dK kvs) → RelD K H kvs ts → (match keyT u with
      | some _ => Ψ (dlook ts u)
      | none => False) → ∃ r o, Ψ r ∧ DGet H a w o ∧ ((r = none ∧ o = none) ∨ ∃ t v, r = some t ∧ o = some v ∧ Rel K H v t) := by
    intro kvs ts h1 rd h
    split at h
    · rename_i k0 ek
      have eu := keyT_kT ek
      subst eu
      have ew := r.key
      subst ew
      refine ⟨_, _, h, .inl ⟨kvs, k0, h1, rfl, rfl⟩, ?_⟩
      rcases rd.look (k := k0) with ⟨e1, e2⟩ | ⟨t, v, e1, e2, e3⟩
      · exact .inl ⟨e1, e2⟩
      · exact .inr ⟨t, v, e1, e2, e3⟩
    · exact h.elim
  split at h
  · rename_i kvs e
    obtain ⟨vs, h1, rd⟩ := g.obj _ _ e
    exact fin (.inl h1) rd h
  · rename_i ob vs kvs e
    obtain ⟨h1, rd⟩ := g.obj _ _ e
    exact fin (.inr ⟨ob, h1⟩) rd h
  · exact h.elim
theorem e_get1 (hu : X.A.units + 1 < cLine) (ho : E en X o la) (he : E en X e lb) (m : M1 X o "get" apos e cpos := by exact ⟨rfl, rfl, rfl, rfl⟩) : E en X (.Call (.Attribute o "get" apos) [e] [] cpos) (lGet1 la lb) := by
  refine PE.weak (pe_dget1 hu ho he m) fun σ H Q ⟨S, G, Φ, s, g, q, k⟩ => ?_
  refine ⟨S, G, _, s, g, q, fun t G1 v H1 q1 r1 g1 s1 => ?_⟩
  obtain ⟨a, rfl, rfl, hd⟩ := isDT_ok g1 r1 q1.1
  refine ⟨a, rfl, hd, S, G1, _, s.stay (s1.stay g), g1, q1.2, fun u G2 w H2 q2 r2 g2 s2 => ?_⟩
  obtain ⟨r, o, h1, h2, h3⟩ := getT_ok g2 r2 q2
  refine ⟨o, h2, ?_⟩
  rcases h3 with ⟨rfl, rfl⟩ | ⟨t, v, rfl, rfl, h3⟩
  · exact k _ _ _ _ h1 .non g2 (s1.trans s2)
  · exact k _ _ _ _ h1 h3 g2 (s1.trans s2)
theorem e_get2 (hu : X.A.units + 1 < cLine) (ho : E en X o la) (he : E en X e lb) (hf : E en X e1 lx) (m : M2 X o "get" apos e e1 cpos := by exact ⟨rfl, rfl, rfl, rfl⟩) : E en X (.Call (.Attribute o "get" apos) [e, e1] [] cpos) (lGet2 la lb lx) := by
  refine PE.weak (pe_dget2 hu ho he hf m) fun σ H Q ⟨S, G, Φ, s, g, q, k⟩ => ?_
  refine ⟨S, G, _, s, g, q, fun t G1 v H1 q1 r1 g1 s1 => ?_⟩
  obtain ⟨a, rfl, rfl, hd⟩ := isDT_ok g1 r1 q1.1
  refine ⟨a, rfl, hd, S, G1, _, s.stay (s1.stay g), g1, q1.2, fun u G2 w H2 q2 r2 g2 s2 => ?_⟩
  refine ⟨S, G2, _, (s.stay (s1.stay g)).stay (s2.stay g1), g2, q2, fun z G3 y H3 q3 r3 g3 s3 => ?_⟩
  obtain ⟨r, o, h1, h2, h3⟩ := getT_ok g3 (r2.stay (s3.stay g2)) q3
  refine ⟨o, h2, ?_⟩
  rcases h3 with ⟨rfl, rfl⟩ | ⟨t, v, rfl, rfl, h3⟩
  · exact k _ _ _ _ h1 r3 g3 ((s1.trans s2).trans s3)
  · exact k _ _ _ _ h1 h3 g3 ((s1.trans s2).trans s3)
/-! d.update(other) -/
theorem mt_dupdate : MtR X "dict.update" (fun x xs H Q => ∃ (a b : Addr) (kvs more : List (Key × V)), x = .ref a ∧ xs = [.ref b] ∧ a ≠ b ∧ H a = some (.dK kvs) ∧ H b = some (.dK more) ∧ kvs.length + more.length ≤ sizeLine ∧ Q .non (L2.upd H a (.dK (mergeK kvs more)))) := by
  intro pins s σ H x xs v us Q I rx rs h
  obtain ⟨a, b, kvs, more, rfl, rfl, hab, ha, hb, hz, q⟩ := h
  cases rx
  obtain ⟨u, rfl, hu⟩ := vals1 rs
  cases hu
  obtain ⟨z, hd, vs, rel, dd⟩ := dk_of I.hok ha
  obtain ⟨z2, hd2, vs2, rel2, dd2⟩ := dk_of I.hok hb
  refine call_meetsIn PySem.F.slot_dict_update dd.typeIs PySem.F.entry_dict_update (PySem.F.args_dict_update_2 _ _) (meets_dict_update (mixKind X.prog X.w) a b hab hd2) ⟨vs, vs2, dd, dd2, by rw [← rel.length, ← rel2.length]; exact hz, fun h' d1 d2 hs => ?_⟩
  have he : ∃ q, h'.get? a = some q := let ⟨q, _, _, hq, _⟩ := d1; ⟨q, hq⟩
  have hz' : (mergeK kvs more).length ≤ sizeLine := Nat.le_trans (length_mergeK more kvs) hz
  exact ⟨.non, _, d_write I (by rw [ha]; exact True.intro) hs he (dk_new hz' hd (rel2.merge rel) d1), rfl, q⟩
def updT : RMT := fun t ts G Φ => match t, ts with
  | .ref a, [.ref b] => (match G a, G b with
    | some (.dic kvs), some (.dic more) => a ≠ b ∧ kvs.length + more.length ≤ sizeLine ∧ Φ .non (gup G a (.dic (dmerge kvs more)))
    | _, _ => False)
  | _, _ => False
theorem dic_upd {K : Fr0} {H : Hp} {G : Gp} {p : Addr} {vs : List (Key × V)} {ts ts0 : List (T × T)} (g : HRel K en H G) (e : G p = some (.dic ts0)) (r : RelD K H vs ts) : HRel K en (L2.upd H p (.dK vs)) (gup G p (.dic ts)) ∧ Step H G (L2.upd H p (.dK vs)) (gup G p (.dic ts)) ∧ Stay K H (L2.upd H p (.dK vs)) :=
  g.upd (a := p) (ho := .dK vs) (o := .dic ts) (.inr ⟨_, e, fun n z => by cases z⟩) (fun n z => by cases z) ⟨vs, upd_same, RelD.stay (stayL g e (fun n z => by cases z)) r⟩
theorem m_update : MtR X "dict.update" (lowM X.K en updT) := by
  refine MtR.weak mt_dupdate fun x xs H Q ⟨t, ts, G, Φ, rt, rs, g, q, kk⟩ => ?_
  unfold updT at q
  split at q
  · split at q
    · rename_i xs ys e1 e2
      cases rt
      cases rs with
      | cons r1 r2 =>
        cases r1
        cases r2
        obtain ⟨vs, h1, r3⟩ := g.obj _ _ e1
        obtain ⟨ws, h2, r4⟩ := g.obj _ _ e2
        obtain ⟨g2, s2, _⟩ := dic_upd g e1 (RelD.merge r4 r3)
        exact ⟨_, _, vs, ws, rfl, rfl, q.1, h1, h2, by rw [r3.length, r4.length]; exact q.2.1, kk _ _ _ _ q.2.2 .non g2 s2⟩
    · exact q.elim
  · exact q.elim
end
end Dv
namespace Dv
open PySem PySem.Spec PyProof.Rows L2
/-! ### short words: a function, a method, a class that is known -/
section
variable {P : Program} {w : World} {K : Fr0} {mg : Str → Option Value} {base : Heap} {x : Str} {st : Stmt} {N ps : List Str} {k j : Nat} {sp : Sp2} {dts : List T}
/-- the def st of the text stands under its name -/
structure Df (K : Fr0) (mg : Str → Option Value) (x : Str) (st : Stmt) (ps : List Str) : Prop where
  ex : ∃ (f : Addr) (fd : FuncData), Fun K x x st f fd ∧ mg x = some (.ref f) ∧ Binds K fd ps []
/-- a function and its promise -/
structure Kn (P : Program) (w : World) (K : Fr0) (mg : Str → Option Value) (base : Heap) (k : Nat) (x : Str) (sp : Sp2) (dts : List T) : Prop where
  ex : ∃ (f : Addr) (fd : FuncData) (ps : List Str) (dvs : List V) (ds : List Value), FnOk P w K mg base (L2.CX P w) k f fd ps (lowSp K sp) ∧ mg x = some (.ref f) ∧ PySem.W.keepIn K (.ref f) = true ∧ Binds K fd ps ds ∧ Vals dvs ds ∧ ∀ H, RelL K H dvs dts
theorem Kn.mono (F : Kn P w K mg base j x sp dts) (h : j ≤ k) : Kn P w K mg base k x sp dts := by
  obtain ⟨f, fd, ps, dvs, ds, a, r⟩ := F.ex
  exact ⟨f, fd, ps, dvs, ds, a.mono h, r⟩
theorem Kn.imp {sp' : Sp2} (F : Kn P w K mg base k x sp dts) (h : ∀ ts G Φ ΦE, sp' ts G Φ ΦE → sp ts G Φ ΦE) : Kn P w K mg base k x sp' dts := by
  obtain ⟨f, fd, ps, dvs, ds, a, r⟩ := F.ex
  exact ⟨f, fd, ps, dvs, ds, FnOk.impT a h, r⟩
theorem kn_of (D : Df K mg x st ps) (S : FnScope N ps (defScope st)) (len : ∀ ts G Φ ΦE, sp ts G Φ ΦE → ts.length = ps.length) (hbody : ∀ f, BodyOk P w K mg base N x (defScope st) f k (defBody st) sp) : Kn P w K mg base (k + 1) x sp [] := by
  obtain ⟨f, fd, F, hm, hb⟩ := D.ex
  exact ⟨f, fd, ps, [], [], fn_T F S len (hbody f), hm, F.kp, hb, .nil, fun H => .nil⟩
end
section
variable {X : Cx} {a b c e o e1 : Expr} {es ifs : List Expr} {la lb lv lx : LE} {l lk : LA} {pos p p2 apos cpos spos py : Pos} {k n : Nat} {x m y : Str} {sp : Sp2} {dts : List T}
theorem e_kn (F : Kn X.prog X.w X.K X.mg X.base k x sp dts) (hr : Room k X.A) (ha : Ea en X (e :: es) l) (hg : Gl X x := by rfl) (hdb : (x == ("__debug__" : Str)) = false := by decide)
    (he : starEach (e :: es) X.env = (false, eval e X.env) :: starEach es X.env := by rfl) (hpl : (backTo pos (starEach es X.env)).any (·.1) = false := by rfl) : E en X (.Call (.Name x p) (e :: es) [] pos) (lCall sp dts noX l) := by
  obtain ⟨f, fd, ps, dvs, ds, a, hm, hk, hb, hd, hdt⟩ := F.ex
  exact e_call a hr hg hm hk hb hd hdt passN ha hdb he hpl
theorem e_kn0 (F : Kn X.prog X.w X.K X.mg X.base k x sp dts) (hr : Room k X.A) (hg : Gl X x := by rfl) (hdb : (x == ("__debug__" : Str)) = false := by decide) : E en X (.Call (.Name x p) [] [] pos) (lCall sp dts noX lNil) := by
  obtain ⟨f, fd, ps, dvs, ds, a, hm, hk, hb, hd, hdt⟩ := F.ex
  exact e_call0 a hr hg hm hk hb hd hdt passN hdb
/-! constants of the module -/
def GInt (mg : Str → Option Value) (x : Str) (i : Int) : Prop := ∃ t, mg x = some (.int i t)
def GStr (mg : Str → Option Value) (x : Str) (s : Str) : Prop := ∃ t, mg x = some (.str s t)
theorem e_gInt {i : Int} (h : GInt X.mg x i) (hg : Gl X x := by rfl) (hd : (x == ("__debug__" : Str)) = false := by decide) : E en X (.Name x pos) (lGlob (.int i)) := by
  obtain ⟨t, hm⟩ := h
  exact e_glob (v := .int i) (fun _ => .int i) hg hm ⟨t, rfl⟩ hd
theorem e_gStr {i : Str} (h : GStr X.mg x i) (hg : Gl X x := by rfl) (hd : (x == ("__debug__" : Str)) = false := by decide) : E en X (.Name x pos) (lGlob (.str i)) := by
  obtain ⟨t, hm⟩ := h
  exact e_glob (v := .str i) (fun _ => .str i) hg hm ⟨t, rfl⟩ hd
/-! built-ins in short -/
theorem b_lenE (hm : X.mg "len" = none) (ha : Ea en X [e] l) (hg : Gl X "len" := by rfl) (he : starEach [e] X.env = (false, eval e X.env) :: starEach [] X.env := by rfl) : E en X (.Call (.Name "len" p) [e] [] pos) (lCB lenT l) :=
  e_cb b_len hg hm rfl ha (he := he)
theorem b_absE (hm : X.mg "abs" = none) (ha : Ea en X [e] l) (hg : Gl X "abs" := by rfl) (he : starEach [e] X.env = (false, eval e X.env) :: starEach [] X.env := by rfl) : E en X (.Call (.Name "abs" p) [e] [] pos) (lCB absT l) :=
  e_cb b_abs hg hm rfl ha (he := he)
theorem b_intE (hm : X.mg "int" = none) (ha : Ea en X [e] l) (hg : Gl X "int" := by rfl) (he : starEach [e] X.env = (false, eval e X.env) :: starEach [] X.env := by rfl) : E en X (.Call (.Name "int" p) [e] [] pos) (lCB intCT l) :=
  e_ct b_int hg hm rfl ha (he := he)
theorem b_listE (hm : X.mg "list" = none) (ha : Ea en X [e] l) (hg : Gl X "list" := by rfl) (he : starEach [e] X.env = (false, eval e X.env) :: starEach [] X.env := by rfl) : E en X (.Call (.Name "list" p) [e] [] pos) (lCB listT l) :=
  e_ct b_list hg hm rfl ha (he := he)
theorem b_tupleE (hm : X.mg "tuple" = none) (ha : Ea en X [e] l) (hg : Gl X "tuple" := by rfl) (he : starEach [e] X.env = (false, eval e X.env) :: starEach [] X.env := by rfl) : E en X (.Call (.Name "tuple" p) [e] [] pos) (lCB tupCT l) :=
  e_ct b_tuple hg hm rfl ha (he := he)
theorem b_sortedE (hm : X.mg "sorted" = none) (ha : Ea en X [e] l) (hg : Gl X "sorted" := by rfl) (hc : X.calm = true := by rfl) (he : starEach [e] X.env = (false, eval e X.env) :: starEach [] X.env := by rfl) : E en X (.Call (.Name "sorted" p) [e] [] pos) (lCB sortT l) :=
  e_cb (b_sorted hc) hg hm rfl ha (he := he)
theorem b_dictE (hm : X.mg "dict" = none) (ha : Ea en X [e] l) (hg : Gl X "dict" := by rfl) (hc : X.calm = true := by rfl) (he : starEach [e] X.env = (false, eval e X.env) :: starEach [] X.env := by rfl) : E en X (.Call (.Name "dict" p) [e] [] pos) (lCB dictT l) :=
  e_ct (b_dict hc) hg hm rfl ha (he := he)
theorem b_isiE (hm : X.mg "isinstance" = none) (ha : Ea en X [e, e1] l) (hg : Gl X "isinstance" := by rfl) (he : starEach [e, e1] X.env = (false, eval e X.env) :: starEach [e1] X.env := by rfl) (hpl : (backTo pos (starEach [e1] X.env)).any (·.1) = false := by rfl) : E en X (.Call (.Name "isinstance" p) [e, e1] [] pos) (lCB isiT l) :=
  e_cb b_isi hg hm rfl ha (he := he) (hpl := hpl)
/-! methods in short -/
abbrev Few (X : Cx) (e : Expr) (es : List Expr) (cpos : Pos) : Prop := ((backTo cpos (starEach (e :: es) X.env)).all (fun x => !x.1) && (backToKw cpos (keywordEach [] X.env)).all (fun x => x.1.isSome)
      && decide ((e :: es).length + ([] : List Keyword).length + (if ([] : List Keyword).isEmpty then 0 else 1) < 30)) = true
theorem e_append (ho : E en X o la) (ha : Ea en X [e] l) (hbase : attributeBase o "append" X.env (eval o X.env) = eval o X.env := by rfl) (hfew : Few X e [] cpos := by rfl) (hline : (apos.endLine == cpos.line) = true := by rfl) (hs : starEach [e] X.env = (false, eval e X.env) :: starEach [] X.env := by rfl) :
    E en X (.Call (.Attribute o "append" apos) [e] [] cpos) (lBM "list" appT la l) := e_bm PySem.F.plainAttrs_list PySem.F.slot_list_append PySem.F.type_list_append m_append ho ha hbase hfew hline hs
theorem e_extend (ho : E en X o la) (ha : Ea en X [e] l) (hbase : attributeBase o "extend" X.env (eval o X.env) = eval o X.env := by rfl) (hfew : Few X e [] cpos := by rfl) (hline : (apos.endLine == cpos.line) = true := by rfl) (hs : starEach [e] X.env = (false, eval e X.env) :: starEach [] X.env := by rfl) :
    E en X (.Call (.Attribute o "extend" apos) [e] [] cpos) (lBM "list" extT la l) := e_bm PySem.F.plainAttrs_list PySem.F.slot_list_extend PySem.F.type_list_extend m_extend ho ha hbase hfew hline hs
theorem e_pop (ho : E en X o la) (ha : Ea en X [e] l) (hbase : attributeBase o "pop" X.env (eval o X.env) = eval o X.env := by rfl) (hfew : Few X e [] cpos := by rfl) (hline : (apos.endLine == cpos.line) = true := by rfl) (hs : starEach [e] X.env = (false, eval e X.env) :: starEach [] X.env := by rfl) :
    E en X (.Call (.Attribute o "pop" apos) [e] [] cpos) (lBM "list" popT la l) := e_bm PySem.F.plainAttrs_list PySem.F.slot_list_pop PySem.F.type_list_pop m_pop ho ha hbase hfew hline hs
theorem e_pop0 (ho : E en X o la) (hbase : attributeBase o "pop" X.env (eval o X.env) = eval o X.env := by rfl) (hline : (apos.endLine == cpos.line) = true := by rfl) :
    E en X (.Call (.Attribute o "pop" apos) [] [] cpos) (lBM "list" popT la lNil) := e_bm0 PySem.F.plainAttrs_list PySem.F.slot_list_pop PySem.F.type_list_pop m_pop ho hbase hline
theorem e_insert (ho : E en X o la) (ha : Ea en X [e, e1] l) (hbase : attributeBase o "insert" X.env (eval o X.env) = eval o X.env := by rfl) (hfew : Few X e [e1] cpos := by rfl) (hline : (apos.endLine == cpos.line) = true := by rfl) (hs : starEach [e, e1] X.env = (false, eval e X.env) :: starEach [e1] X.env := by rfl)
    (hp : (backTo cpos (starEach [e1] X.env)).any (·.1) = false := by rfl) :
    E en X (.Call (.Attribute o "insert" apos) [e, e1] [] cpos) (lBM "list" insT la l) := e_bm PySem.F.plainAttrs_list PySem.F.slot_list_insert PySem.F.type_list_insert m_insert ho ha hbase hfew hline hs hp
theorem e_tindex (ho : E en X o la) (ha : Ea en X [e] l) (hbase : attributeBase o "index" X.env (eval o X.env) = eval o X.env := by rfl) (hfew : Few X e [] cpos := by rfl) (hline : (apos.endLine == cpos.line) = true := by rfl) (hs : starEach [e] X.env = (false, eval e X.env) :: starEach [] X.env := by rfl) :
    E en X (.Call (.Attribute o "index" apos) [e] [] cpos) (lBM "tuple" tixT la l) := e_bm PySem.F.plainAttrs_tuple PySem.F.slot_tuple_index PySem.F.type_tuple_index m_tindex ho ha hbase hfew hline hs
theorem e_update (ho : E en X o la) (ha : Ea en X [e] l) (hbase : attributeBase o "update" X.env (eval o X.env) = eval o X.env := by rfl) (hfew : Few X e [] cpos := by rfl) (hline : (apos.endLine == cpos.line) = true := by rfl) (hs : starEach [e] X.env = (false, eval e X.env) :: starEach [] X.env := by rfl) :
    E en X (.Call (.Attribute o "update" apos) [e] [] cpos) (lBM "dict" updT la l) := e_bm PySem.F.plainAttrs_dict PySem.F.slot_dict_update PySem.F.type_dict_update m_update ho ha hbase hfew hline hs
end
theorem _root_.L2.Room.u1 {k : Nat} {A : Around} (r : Room k A) : A.units + 1 < cLine := by have := r.un; omega
theorem _root_.L2.Room.u64 {k : Nat} {A : Around} (r : Room k A) : A.units + 64 < cLine := by have := r.un; omega
theorem _root_.L2.Room.u65 {k : Nat} {A : Around} (r : Room k A) : A.units + 65 < cLine := by have := r.un; omega
end Dv
namespace Dv
open PySem PySem.Spec PyProof.Rows L2
/-! ### isinstance(x, (A, B)) -/
section
variable {X : Cx} {a b c e o e1 : Expr} {es ifs : List Expr} {la lb lv lx : LE} {l lk : LA} {pos p p2 p3 p4 apos cpos spos py : Pos} {k n : Nat} {x m y : Str} {sp : Sp2} {dts : List T}
def lIsi2 (n1 n2 : String) (la : LE) : LE := fun S G Φ => la S G fun t G1 => n1 ∈ tysS ∧ n2 ∈ tysS ∧ (match tyS t G1 with
    | some m => Φ (.bl (subS m n1 || subS m n2)) G1
    | none => False)
theorem kit_any2 {K : Fr0} {m n1 n2 : String} (hm : m ∈ "NoneType" :: tysS) (h1 : n1 ∈ tysS) (h2 : n2 ∈ tysS) : PySem.W.kitAny K (.type m) [.type n1, .type n2] = some (subS m n1 || subS m n2) := by
  refine kitAny_cons (kit_ty (kit_sub hm h1)) (fun e => ?_) (fun e => by rw [e]; rfl)
  rw [e, Bool.false_or]
  exact kitAny_cons (kit_ty (kit_sub hm h2)) (fun e => by rw [e]; rfl) (fun e => e)
theorem e_isi2 {n1 n2 : String} {x1 x2 : Str} {j : Nat} (hm : X.mg "isinstance" = none) (hm1 : X.mg x1 = none) (hm2 : X.mg x2 = none) (he : E en X e la) (hg : Gl X "isinstance" := by rfl) (hg1 : Gl X x1 := by rfl) (hg2 : Gl X x2 := by rfl)
    (hv1 : bootBuiltins x1 = some (.type n1) := by rfl) (hv2 : bootBuiltins x2 = some (.type n2) := by rfl) (hn1 : x1 ≠ "__name__" := by decide) (hd1 : (x1 == ("__debug__" : Str)) = false := by decide) (hn2 : x2 ≠ "__name__" := by decide) (hd2 : (x2 == ("__debug__" : Str)) = false := by decide)
    (hse : starEach [e, .Tuple [.Name x1 p1, .Name x2 p2] j p3] X.env = (false, eval e X.env) :: starEach [.Tuple [.Name x1 p1, .Name x2 p2] j p3] X.env := by rfl) (hpl : (backTo pos (starEach [.Tuple [.Name x1 p1, .Name x2 p2] j p3] X.env)).any (·.1) = false := by rfl) :
    E en X (.Call (.Name "isinstance" p) [e, .Tuple [.Name x1 p1, .Name x2 p2] j p3] [] pos) (lIsi2 n1 n2 la) := by
  refine PE.weak (pe_callB (r := rIsiT X.K) call_isiT hg hm rfl (pa_cons he (pa_cons (pe_tup (pa_cons (pe_bltn (v := .ty n1) hg1 hm1 hv1 rfl hn1 hd1) (pa_cons (pe_bltn (v := .ty n2) hg2 hm2 hv2 rfl hn2 hd2) pa_nil))) pa_nil) hse) (he := hse) (hpl := hpl)) ?_
  intro σ H Q ⟨S, G, Φ, s, g, q, kk⟩
  refine ⟨S, G, _, s, g, q, fun t G1 v H1 q1 r1 g1 s1 => ?_⟩
  refine ⟨Nat.le_trans (show 2 ≤ 1000 by decide) (by rw [sizeLine_eq]; decide), fun q hq => ?_⟩
  obtain ⟨h1, h2, q1⟩ := q1
  split at q1
  · rename_i m e1
    obtain ⟨g2, s2, st2⟩ := g1.laid (ho := .tup [.ty n1, .ty n2]) hq
    obtain ⟨y1, y2⟩ := tyS_ok g2 (r1.stay st2) e1
    exact ⟨v, q, [.ty n1, .ty n2], .type m, [.type n1, .type n2], _, rfl, upd_same, .cons (.ty n1) (.cons (.ty n2) .nil), y1, kit_any2 y2 h1 h2, kk _ _ _ _ q1 (.bl _) g2 (s1.trans s2)⟩
  · exact q1.elim
/-! tuples of the module -/
def GTup (K : Fr0) (mg : Str → Option Value) (x : Str) (t : T) : Prop := ∃ (u : Value) (v : V), mg x = some u ∧ RelV v u ∧ ∀ H, Rel K H v t
theorem e_gTup {t : T} (h : GTup X.K X.mg x t) (hg : Gl X x := by rfl) (hd : (x == ("__debug__" : Str)) = false := by decide) : E en X (.Name x pos) (lGlob t) := by
  obtain ⟨u, v, hm, r, h⟩ := h
  exact e_glob h hg hm r hd
end
/-! ### classes -/
section
variable {P : Program} {w : World} {K : Fr0} {mg : Str → Option Value} {base : Heap} {x qual m f0 : Str} {st : Stmt} {N ps : List Str} {k j : Nat} {sp : Sp2} {dts : List T} {C : Addr}
/-- a method as it stands in the text -/
structure DfM (K : Fr0) (C : Addr) (m qual : Str) (st : Stmt) (ps : List Str) : Prop where
  ex : ∃ (f : Addr) (fd : FuncData), Fun K m qual st f fd ∧ Meth K C m f ∧ Binds K fd ps []
structure KnM (P : Program) (w : World) (K : Fr0) (mg : Str → Option Value) (base : Heap) (k : Nat) (C : Addr) (m : Str) (sp : Sp2) (dts : List T) : Prop where
  ex : ∃ (f : Addr) (fd : FuncData) (ps : List Str) (dvs : List V) (ds : List Value), FnOk P w K mg base (L2.CX P w) k f fd ps (lowSp K sp) ∧ Cls K C ∧ Meth K C m f ∧ Binds K fd ps ds ∧ Vals dvs ds ∧ ∀ H, RelL K H dvs dts
theorem KnM.mono (F : KnM P w K mg base j C m sp dts) (h : j ≤ k) : KnM P w K mg base k C m sp dts := by
  obtain ⟨f, fd, ps, dvs, ds, a, r⟩ := F.ex
  exact ⟨f, fd, ps, dvs, ds, a.mono h, r⟩
theorem KnM.imp {sp' : Sp2} (F : KnM P w K mg base k C m sp dts) (h : ∀ ts G Φ ΦE, sp' ts G Φ ΦE → sp ts G Φ ΦE) : KnM P w K mg base k C m sp' dts := by
  obtain ⟨f, fd, ps, dvs, ds, a, r⟩ := F.ex
  exact ⟨f, fd, ps, dvs, ds, FnOk.impT a h, r⟩
theorem knM_of (c : Cls K C) (D : DfM K C m qual st ps) (S : FnScope N ps (defScope st)) (len : ∀ ts G Φ ΦE, sp ts G Φ ΦE → ts.length = ps.length) (hbody : ∀ f, BodyOk P w K mg base N qual (defScope st) f k (defBody st) sp) : KnM P w K mg base (k + 1) C m sp [] := by
  obtain ⟨f, fd, F, hm, hb⟩ := D.ex
  exact ⟨f, fd, ps, [], [], fn_T F S len (hbody f), c, hm, hb, .nil, fun H => .nil⟩
/-- __init__ -/
structure DfI (K : Fr0) (mg : Str → Option Value) (x : Str) (C : Addr) (qual : Str) (st : Stmt) (ps : List Str) : Prop where
  ex : ∃ (f : Addr) (fd : FuncData), Fun K "__init__" qual st f fd ∧ Mk K C f ∧ mg x = some (.ref C) ∧ Binds K fd ps []
structure KnI (P : Program) (w : World) (K : Fr0) (mg : Str → Option Value) (base : Heap) (k : Nat) (x : Str) (C : Addr) (sp : Sp2) (dts : List T) : Prop where
  ex : ∃ (f : Addr) (fd : FuncData) (ps : List Str) (dvs : List V) (ds : List Value), FnOk P w K mg base (L2.CX P w) k f fd ps (lowSp K sp) ∧ Mk K C f ∧ mg x = some (.ref C) ∧ Binds K fd ps ds ∧ Vals dvs ds ∧ ∀ H, RelL K H dvs dts
theorem KnI.imp {sp' : Sp2} (F : KnI P w K mg base k x C sp dts) (h : ∀ ts G Φ ΦE, sp' ts G Φ ΦE → sp ts G Φ ΦE) : KnI P w K mg base k x C sp' dts := by
  obtain ⟨f, fd, ps, dvs, ds, a, r⟩ := F.ex
  exact ⟨f, fd, ps, dvs, ds, FnOk.impT a h, r⟩
theorem knI_of (D : DfI K mg x C qual st ps) (S : FnScope N ps (defScope st)) (len : ∀ ts G Φ ΦE, sp ts G Φ ΦE → ts.length = ps.length) (hbody : ∀ f, BodyOk P w K mg base N qual (defScope st) f k (defBody st) sp) : KnI P w K mg base (k + 1) x C sp [] := by
  obtain ⟨f, fd, F, hm, hx, hb⟩ := D.ex
  exact ⟨f, fd, ps, [], [], fn_T F S len (hbody f), hm, hx, hb, .nil, fun H => .nil⟩
/-- a property -/
structure DfP (K : Fr0) (C : Addr) (m qual : Str) (st : Stmt) : Prop where
  ex : ∃ (p f : Addr) (fd : FuncData), Fun K m qual st f fd ∧ PropOf K C m p f ∧ Binds K fd ["self"] []
structure KnP (P : Program) (w : World) (K : Fr0) (mg : Str → Option Value) (base : Heap) (k : Nat) (C : Addr) (m : Str) (sp : Sp2) : Prop where
  ex : ∃ (p f : Addr) (fd : FuncData), FnOk P w K mg base (L2.CX P w) k f fd ["self"] (lowSp K sp) ∧ Cls K C ∧ PropOf K C m p f ∧ Binds K fd ["self"] []
theorem KnP.imp {sp' : Sp2} (F : KnP P w K mg base k C m sp) (h : ∀ ts G Φ ΦE, sp' ts G Φ ΦE → sp ts G Φ ΦE) : KnP P w K mg base k C m sp' := by
  obtain ⟨p, f, fd, a, r⟩ := F.ex
  exact ⟨p, f, fd, FnOk.impT a h, r⟩
theorem knP_of (c : Cls K C) (D : DfP K C m qual st) (S : FnScope N ["self"] (defScope st)) (len : ∀ ts G Φ ΦE, sp ts G Φ ΦE → ts.length = 1) (hbody : ∀ f, BodyOk P w K mg base N qual (defScope st) f k (defBody st) sp) : KnP P w K mg base (k + 1) C m sp := by
  obtain ⟨p, f, fd, F, hp, hb⟩ := D.ex
  exact ⟨p, f, fd, fn_T F S len (hbody f), c, hp, hb⟩
end
section
variable {X : Cx} {a b c e o e1 : Expr} {es ifs : List Expr} {la lb lv lx : LE} {l lk : LA} {pos p p2 apos cpos spos py : Pos} {k n : Nat} {x m y : Str} {sp : Sp2} {dts : List T} {C : Addr}
theorem e_km {pl : Sem Bool} (F : KnM X.prog X.w X.K X.mg X.base k C m sp dts) (hr : Room k X.A) (he : E en X o la) (ha : Ea en X (e :: es) l)
    (hst : starEach (e :: es) X.env = (false, eval e X.env) :: starEach es X.env := by rfl) (hpl : (backTo pos (starEach es X.env)).any (·.1) = false := by rfl)
    (ht : eval (.Call (.Attribute o m apos) (e :: es) [] pos) X.env = (do
      let ov ← eval o X.env
      standAt apos.atName
      let (f, first) ← holding [ov] (getMethod ov m pl)
      callWith pos f first (backTo pos (starEach (e :: es) X.env)) (backToKw pos (keywordEach [] X.env))) := by rfl) :
    E en X (.Call (.Attribute o m apos) (e :: es) [] pos) (lMeth C m sp dts noX la l) := by
  obtain ⟨f, fd, ps, dvs, ds, a, c, hm, hb, hd, hdt⟩ := F.ex
  exact e_meth he c hm a hr hb hd hdt passN ha hst hpl ht
theorem e_km0 {pl : Sem Bool} (F : KnM X.prog X.w X.K X.mg X.base k C m sp dts) (hr : Room k X.A) (he : E en X o la)
    (ht : eval (.Call (.Attribute o m apos) [] [] pos) X.env = (do
      let ov ← eval o X.env
      standAt apos.atName
      let (f, first) ← holding [ov] (getMethod ov m pl)
      callWith pos f first (backTo pos (starEach [] X.env)) (backToKw pos (keywordEach [] X.env))) := by rfl) :
    E en X (.Call (.Attribute o m apos) [] [] pos) (lMeth C m sp dts noX la lNil) := by
  obtain ⟨f, fd, ps, dvs, ds, a, c, hm, hb, hd, hdt⟩ := F.ex
  exact e_meth0 he c hm a hr hb hd hdt passN ht
theorem e_ki (F : KnI X.prog X.w X.K X.mg X.base k x C sp dts) (hr : Room (k + 1) X.A) (ha : Ea en X (e :: es) l) (hg : Gl X x := by rfl) (hdb : (x == ("__debug__" : Str)) = false := by decide)
    (he : starEach (e :: es) X.env = (false, eval e X.env) :: starEach es X.env := by rfl) (hpl : (backTo pos (starEach es X.env)).any (·.1) = false := by rfl) : E en X (.Call (.Name x p) (e :: es) [] pos) (lMake C sp dts noX l) := by
  obtain ⟨f, fd, ps, dvs, ds, a, M, hm, hb, hd, hdt⟩ := F.ex
  exact e_make M a hr hg hm hb hd hdt passN ha hdb he hpl
/-- o.f, a property -/
def lProp (C : Addr) (sp : Sp2) (la : LE) : LE := fun S G Φ => la S G fun t G1 => match t with
  | .ref a => (match G1 a with
    | some (.ins C' fs) => C' = C ∧ sp [.ref a] G1 Φ noX
    | _ => False)
  | _ => False
theorem e_kp (F : KnP X.prog X.w X.K X.mg X.base k C m sp) (hr : Room (k + 1) X.A) (he : E en X o la) (hab : attributeBase o m X.env (eval o X.env) = eval o X.env := by rfl) : E en X (.Attribute o m pos) (lProp C sp la) := by
  obtain ⟨p, f, fd, a, c, hp, hb⟩ := F.ex
  refine PE.weak (pe_prop (dvs := []) (E := lowX X.K en noX) he c hp a hr hb .nil (passN (X := X.nox)) hab) fun σ H Q ⟨S, G, Φ, s, g, q, kk⟩ => ?_
  refine ⟨S, G, _, s, g, q, fun t G1 v H1 q1 r1 g1 s1 => ?_⟩
  cases r1 with
  | ref a =>
    simp only at q1
    split at q1
    · rename_i C' fs e1
      obtain ⟨hC, q1⟩ := q1
      subst hC
      obtain ⟨dx, raw, h1, rf⟩ := g1.obj _ _ e1
      refine ⟨a, dx, raw, rfl, h1, ?_⟩
      exact ⟨[.ref a], G1, Φ, noX, .cons (.ref a) .nil, g1.nil, q1, fun t G' v H' a b c d => kk t G' v H' a b (g1.back c d) (s1.trans d), fun C fs G' H' cls d a b c d' => a.elim⟩
    · exact q1.elim
  | _ => exact q1.elim
end
end Dv
namespace Dv
open PySem PySem.Spec PyProof.Rows L2
def negT : R1T := fun t G Φ => match t with
  | .int i => Φ (.int (-i)) G
  | _ => False
theorem e_neg {X : Cx} {a : Expr} {la : LE} {pos : Pos} (ha : E en X a la) : E en X (.UnaryOp .USub a pos) (lUn negT la) := by
  refine PE.weak (pe_un un_neg ha) fun σ H Q ⟨S, G, Φ, s, g, q, k⟩ => ?_
  refine ⟨S, G, _, s, g, q, fun t G1 v H1 q1 r1 g1 s1 => ?_⟩
  cases r1 with
  | int i => exact ⟨i, rfl, k _ _ _ _ q1 (.int _) g1 s1⟩
  | _ => exact q1.elim
end Dv
namespace Dv
open PySem PySem.Spec PyProof.Rows L2
/-! ### values without addresses, as data -/
mutual
def pd : T → PyData
  | .non => .none
  | .bl b => .bool b
  | .int i => .int i
  | .str x => .str x
  | .tup ts => .tuple (pdL ts)
  | .ref _ => .none
  | .ty _ => .none
  | .ptup _ => .none
def pdL : List T → List PyData
  | [] => []
  | t :: ts => pd t :: pdL ts
end
mutual
def nr : T → Bool
  | .ref _ => false
  | .ptup _ => false
  | .ty _ => false
  | .tup ts => nrL ts
  | .str x => PyData.strOk x
  | .non => true
  | .bl _ => true
  | .int _ => true
def nrL : List T → Bool
  | [] => true
  | t :: ts => nr t && nrL ts
end
mutual
/-- no truth value meets a number -/
def cpt : T → T → Bool
  | .tup xs, u => cptT xs u
  | .bl _, .int _ => false
  | .int _, .bl _ => false
  | _, _ => true
def cptT : List T → T → Bool
  | [], _ => true
  | x :: xs, .tup (y :: ys) => cpt x y && cptT xs (.tup ys)
  | _, _ => true
end
mutual
/-- no truth value inside -/
def nb : T → Bool
  | .bl _ => false
  | .tup ts => nbL ts
  | _ => true
def nbL : List T → Bool
  | [] => true
  | t :: ts => nb t && nbL ts
end
mutual
def dpt : T → Nat
  | .tup ts => dptL ts + 1
  | _ => 0
def dptL : List T → Nat
  | [] => 0
  | t :: ts => max (dpt t) (dptL ts)
end
mutual
theorem nr_dat {G : Gp} : ∀ t : T, nr t = true → Dat G t (pd t) ∧ (pd t).canLay0 = true ∧ (pd t).depth = dpt t
  | .non, _ => ⟨.non, rfl, rfl⟩
  | .bl b, _ => ⟨.bl b, rfl, rfl⟩
  | .int i, _ => ⟨.int i, rfl, rfl⟩
  | .str x, h => ⟨.str x, by simpa [pd, PyData.canLay0, nr] using h, rfl⟩
  | .tup ts, h => by
    obtain ⟨h1, h2, h3⟩ := nrL_dat (G := G) ts (by simpa [nr] using h)
    refine ⟨.tup h1, by simpa [pd, PyData.canLay0] using h2, ?_⟩
    simp [pd, PyData.depth, dpt, h3]
  | .ref _, h => by simp [nr] at h
  | .ty _, h => by simp [nr] at h
  | .ptup _, h => by simp [nr] at h
theorem nrL_dat {G : Gp} : ∀ ts : List T, nrL ts = true → DatL G ts (pdL ts) ∧ PyData.canLayAll0 (pdL ts) = true ∧ PyData.depthAll (pdL ts) = dptL ts
  | [], _ => ⟨.nil, by simp [pdL, PyData.canLayAll0], by simp [pdL, PyData.depthAll, dptL]⟩
  | t :: ts, h => by
    have h' : nr t = true ∧ nrL ts = true := by simpa [nrL] using h
    obtain ⟨a1, a2, a3⟩ := nr_dat (G := G) t h'.1
    obtain ⟨b1, b2, b3⟩ := nrL_dat (G := G) ts h'.2
    exact ⟨.cons a1 b1, by simp [pdL, PyData.canLayAll0, a2, b2], by simp [pdL, PyData.depthAll, dptL, a3, b3]⟩
end
theorem beq_dec {α : Type} [BEq α] [LawfulBEq α] [DecidableEq α] (a b : α) : (a == b) = decide (a = b) := by
  by_cases h : a = b
  · subst h; simp
  · rw [beq_eq_false_iff_ne.mpr h, decide_eq_false h]
mutual
theorem eqv_pd : ∀ (t u : T), nr t = true → nr u = true → cpt t u = true → PyData.eqv (pd t) (pd u) = decide (t = u)
  | .non, u, _, h, _ => by cases u <;> simp_all [pd, PyData.eqv, nr]
  | .bl b, u, _, h, c => by cases u <;> simp_all [pd, PyData.eqv, nr, cpt]; exact beq_dec _ _
  | .int b, u, _, h, c => by cases u <;> simp_all [pd, PyData.eqv, nr, cpt]; exact beq_dec _ _
  | .str b, u, _, h, c => by cases u <;> simp_all [pd, PyData.eqv, nr, cpt]; exact beq_dec _ _
  | .ref _, u, h, _, _ => by simp [nr] at h
  | .ty _, u, h, _, _ => by simp [nr] at h
  | .ptup _, u, h, _, _ => by simp [nr] at h
  | .tup xs, u, h, h2, c => by
    cases u with
    | tup ys =>
      simp only [pd, PyData.eqv, T.tup.injEq]
      exact eqv_pdL xs ys (by simpa [nr] using h) (by simpa [nr] using h2) (by simpa [cpt] using c)
    | _ => simp_all [pd, PyData.eqv, nr]
theorem eqv_pdL : ∀ (xs ys : List T), nrL xs = true → nrL ys = true → cptT xs (.tup ys) = true → PyData.eqvAll (pdL xs) (pdL ys) = decide (xs = ys)
  | [], [], _, _, _ => by simp [pdL, PyData.eqvAll]
  | [], _ :: _, _, _, _ => by simp [pdL, PyData.eqvAll]
  | _ :: _, [], _, _, _ => by simp [pdL, PyData.eqvAll]
  | x :: xs, y :: ys, h, h2, c => by
    have h' : nr x = true ∧ nrL xs = true := by simpa [nrL] using h
    have h2' : nr y = true ∧ nrL ys = true := by simpa [nrL] using h2
    have c' : cpt x y = true ∧ cptT xs (.tup ys) = true := by simpa [cptT] using c
    simp only [pdL, PyData.eqvAll, eqv_pd x y h'.1 h2'.1 c'.1, eqv_pdL xs ys h'.2 h2'.2 c'.2, List.cons.injEq, Bool.decide_and]
end
mutual
theorem nb_cpt : ∀ t u : T, nb t = true → nb u = true → cpt t u = true
  | .tup xs, u, h, h2 => by simpa [cpt] using nb_cptT xs u (by simpa [nb] using h) h2
  | .bl _, u, h, _ => by simp [nb] at h
  | .int _, u, _, h2 => by cases u <;> simp_all [cpt, nb]
  | .non, u, _, _ => by simp [cpt]
  | .str _, u, _, _ => by simp [cpt]
  | .ref _, u, _, _ => by simp [cpt]
  | .ty _, u, _, _ => by simp [cpt]
  | .ptup _, u, _, _ => by simp [cpt]
theorem nb_cptT : ∀ (xs : List T) (u : T), nbL xs = true → nb u = true → cptT xs u = true
  | [], u, _, _ => by simp [cptT]
  | x :: xs, u, h, h2 => by
    have h' : nb x = true ∧ nbL xs = true := by simpa [nbL] using h
    cases u with
    | tup ys =>
      cases ys with
      | nil => simp [cptT]
      | cons y ys =>
        have h2' : nb y = true ∧ nbL ys = true := by simpa [nb, nbL] using h2
        simp [cptT, nb_cpt x y h'.1 h2'.1, nb_cptT xs (.tup ys) h'.2 (by simpa [nb] using h2'.2)]
    | _ => simp [cptT]
end
theorem nrL_iff : ∀ {ts : List T}, nrL ts = true ↔ ∀ t ∈ ts, nr t = true
  | [] => by simp [nrL]
  | t :: ts => by simp [nrL, nrL_iff (ts := ts)]
theorem nbL_iff : ∀ {ts : List T}, nbL ts = true ↔ ∀ t ∈ ts, nb t = true
  | [] => by simp [nbL]
  | t :: ts => by simp [nbL, nbL_iff (ts := ts)]
theorem dptL_le : ∀ {ts : List T} {n : Nat}, (∀ t ∈ ts, dpt t ≤ n) → dptL ts ≤ n
  | [], _, _ => by simp [dptL]
  | t :: ts, n, h => by
    have h1 := h t (by simp)
    have h2 := dptL_le (ts := ts) (n := n) fun u hu => h u (by simp [hu])
    simp [dptL]; omega
/-- plain data: no address, no truth value, not deep -/
def Pla (t : T) : Prop := nr t = true ∧ nb t = true ∧ dpt t ≤ 60
def PlaL (ts : List T) : Prop := ∀ t ∈ ts, Pla t
theorem PlaL.nil : PlaL [] := fun t h => by cases h
theorem PlaL.cons {t : T} {ts : List T} (h : Pla t) (r : PlaL ts) : PlaL (t :: ts) := fun u hu => by
  rcases List.mem_cons.mp hu with e | hu
  · rw [e]; exact h
  · exact r u hu
theorem PlaL.app {ts us : List T} (h : PlaL ts) (r : PlaL us) : PlaL (ts ++ us) := fun u hu => (List.mem_append.mp hu).elim (h u) (r u)
theorem pla_int {i : Int} : Pla (.int i) := ⟨by simp [nr], by simp [nb], by simp [dpt]⟩
theorem PlaL.ints (is : List Int) : PlaL (is.map T.int) := fun t h => by
  obtain ⟨i, _, rfl⟩ := List.mem_map.mp h
  exact pla_int
theorem shaped_of {d : PyData} (h : d.canLay0 = true) (h2 : d.depth ≤ 64) : SeqAt.shaped d = true := by
  unfold SeqAt.shaped
  rw [h]
  exact decide_eq_true h2
theorem PlaL.facts {ts : List T} (h : PlaL ts) : nrL ts = true ∧ nbL ts = true ∧ dptL ts ≤ 60 := ⟨nrL_iff.mpr fun t ht => (h t ht).1, nbL_iff.mpr fun t ht => (h t ht).2.1, dptL_le fun t ht => (h t ht).2.2⟩
/-- lists compared -/
theorem eqD_lst {neg : Bool} {G : Gp} {a b : Addr} {xs ys : List T} {Φ : QT} (ha : G a = some (.lst xs)) (hb : G b = some (.lst ys)) (px : PlaL xs) (py : PlaL ys) (h : Φ (.bl (if neg then !decide (xs = ys) else decide (xs = ys))) G) : eqD neg (.ref a) (.ref b) G Φ := by
  obtain ⟨x1, x2, x3⟩ := px.facts
  obtain ⟨y1, y2, y3⟩ := py.facts
  obtain ⟨dx, cx, ex⟩ := nrL_dat (G := G) xs x1
  obtain ⟨dy, cy, ey⟩ := nrL_dat (G := G) ys y1
  refine ⟨.list (pdL xs), .list (pdL ys), .lst ha dx, .lst hb dy, shaped_of (by simpa [PyData.canLay0] using cx) (by simp only [PyData.depth, ex]; omega), shaped_of (by simpa [PyData.canLay0] using cy) (by simp only [PyData.depth, ey]; omega), ?_⟩
  have e : PyData.eqv (.list (pdL xs)) (.list (pdL ys)) = decide (xs = ys) := by
    simp only [PyData.eqv]
    exact eqv_pdL xs ys x1 y1 (nb_cptT xs (.tup ys) x2 (by simpa [nb] using y2))
  rw [e]
  exact h
theorem eqT_lst {G : Gp} {a b : Addr} {xs ys : List T} {Φ : QT} (ha : G a = some (.lst xs)) (hb : G b = some (.lst ys)) (px : PlaL xs) (py : PlaL ys) (h : Φ (.bl (decide (xs = ys))) G) : eqT (.ref a) (.ref b) G Φ := by
  unfold eqT
  rw [if_neg (by simp [scalT])]
  exact eqD_lst ha hb px py h
theorem neT_lst {G : Gp} {a b : Addr} {xs ys : List T} {Φ : QT} (ha : G a = some (.lst xs)) (hb : G b = some (.lst ys)) (px : PlaL xs) (py : PlaL ys) (h : Φ (.bl (!decide (xs = ys))) G) : neT (.ref a) (.ref b) G Φ := by
  unfold neT
  rw [if_neg (by simp [scalT])]
  exact eqD_lst ha hb px py h
/-- tuples compared -/
theorem eqD_tup {neg : Bool} {G : Gp} {t u : T} {Φ : QT} (px : Pla t) (py : Pla u) (h : Φ (.bl (if neg then !decide (t = u) else decide (t = u))) G) : eqD neg t u G Φ := by
  obtain ⟨x1, x2, x3⟩ := px
  obtain ⟨y1, y2, y3⟩ := py
  obtain ⟨dx, cx, ex⟩ := nr_dat (G := G) t x1
  obtain ⟨dy, cy, ey⟩ := nr_dat (G := G) u y1
  refine ⟨_, _, dx, dy, shaped_of cx (by rw [ex]; omega), shaped_of cy (by rw [ey]; omega), ?_⟩
  rw [eqv_pd t u x1 y1 (nb_cpt t u x2 y2)]
  exact h
theorem eqT_tup {G : Gp} {t u : T} {Φ : QT} (px : Pla t) (py : Pla u) (h : Φ (.bl (decide (t = u))) G) : eqT t u G Φ := by
  unfold eqT
  split
  · exact h
  · exact eqD_tup px py h
theorem neT_tup {G : Gp} {t u : T} {Φ : QT} (px : Pla t) (py : Pla u) (h : Φ (.bl (!decide (t = u))) G) : neT t u G Φ := by
  unfold neT
  split
  · exact h
  · exact eqD_tup px py h
end Dv
namespace Dv
open PySem PySem.Spec PyProof.Rows L2
/-! ### the draws of a law: the dict of the draws and its two lists as one thing -/
def dkv (lg it : Addr) (l t : Int) : List (T × T) := [(.str "large", .ref lg), (.str "items", .ref it), (.str "left", .int l), (.str "turn", .int t)]
theorem look_large {lg it : Addr} {l t : Int} : dlook (dkv lg it l t) (.str "large") = some (.ref lg) := by
  unfold dkv dlook; rw [if_pos rfl]
theorem look_items {lg it : Addr} {l t : Int} : dlook (dkv lg it l t) (.str "items") = some (.ref it) := by
  simp [dkv, dlook, show ("large" : Str) ≠ "items" by decide]
theorem look_left {lg it : Addr} {l t : Int} : dlook (dkv lg it l t) (.str "left") = some (.int l) := by
  simp [dkv, dlook, show ("large" : Str) ≠ "left" by decide, show ("items" : Str) ≠ "left" by decide]
theorem look_turn {lg it : Addr} {l t : Int} : dlook (dkv lg it l t) (.str "turn") = some (.int t) := by
  simp [dkv, dlook, show ("large" : Str) ≠ "turn" by decide, show ("items" : Str) ≠ "turn" by decide, show ("left" : Str) ≠ "turn" by decide]
theorem put_left {lg it : Addr} {l t l' : Int} : dput (dkv lg it l t) (.str "left") (.int l') = dkv lg it l' t := by
  simp [dkv, dput, show ("large" : Str) ≠ "left" by decide, show ("items" : Str) ≠ "left" by decide, show ("turn" : Str) ≠ "left" by decide]
theorem put_turn {lg it : Addr} {l t t' : Int} : dput (dkv lg it l t) (.str "turn") (.int t') = dkv lg it l t' := by
  simp [dkv, dput, show ("large" : Str) ≠ "turn" by decide, show ("items" : Str) ≠ "turn" by decide, show ("left" : Str) ≠ "turn" by decide]
theorem dkv_len {lg it : Addr} {l t : Int} : (dkv lg it l t).length < sizeLine := by rw [sizeLine_eq]; show 4 < _; decide
def opn (G : Gp) (d lg it : Addr) (l t : Int) (ls is : List Int) : Gp := gup (gup (gup G d (.dic (dkv lg it l t))) lg (.lst (ls.map T.int))) it (.lst (is.map T.int))
/-- what holds of an open state -/
structure Opn (d lg it : Addr) (l t : Int) (ls is : List Int) (n : Nat) : Prop where
  n1 : d ≠ lg
  n2 : d ≠ it
  n3 : lg ≠ it
  lpos : ∀ x ∈ ls, 0 ≤ x
  ipos : ∀ x ∈ is, 0 ≤ x
  ilen : is.length ≤ 63
  llen : ls.length ≤ 63
  l0 : 0 ≤ l
  t0 : 0 ≤ t
  tn : t ≤ n
section
variable {K : Fr0} {en : En} {H : Hp} {G : Gp} {d lg it : Addr} {l t : Int} {ls is : List Int} {n : Nat}
theorem opn_d (o : Opn d lg it l t ls is n) : opn G d lg it l t ls is d = some (.dic (dkv lg it l t)) := by
  unfold opn; rw [gup_ne o.n2, gup_ne o.n1, gup_same]
theorem opn_lg (o : Opn d lg it l t ls is n) : opn G d lg it l t ls is lg = some (.lst (ls.map T.int)) := by
  unfold opn; rw [gup_ne o.n3, gup_same]
theorem opn_it : opn G d lg it l t ls is it = some (.lst (is.map T.int)) := by
  unfold opn; rw [gup_same]
theorem opn_set_d (o : Opn d lg it l t ls is n) {l' t' : Int} : gup (opn G d lg it l t ls is) d (.dic (dkv lg it l' t')) = opn G d lg it l' t' ls is := by
  unfold opn
  rw [gup_comm o.n2.symm, gup_comm o.n1.symm, gup_gup]
theorem opn_set_lg (o : Opn d lg it l t ls is n) {ls' : List Int} : gup (opn G d lg it l t ls is) lg (.lst (ls'.map T.int)) = opn G d lg it l t ls' is := by
  unfold opn
  rw [gup_comm o.n3.symm, gup_gup]
theorem opn_else {b : Addr} (h1 : b ≠ d) (h2 : b ≠ lg) (h3 : b ≠ it) : opn G d lg it l t ls is b = G b := by
  unfold opn; rw [gup_ne h3, gup_ne h2, gup_ne h1]
theorem opn_of (n1 : d ≠ lg) (n2 : d ≠ it) (n3 : lg ≠ it) : gup (gup (gup G it (.lst (is.map T.int))) lg (.lst (ls.map T.int))) d (.dic (dkv lg it l t)) = opn G d lg it l t ls is := by
  unfold opn
  rw [gup_comm n1.symm, gup_comm (a := it) (b := d) n2.symm, gup_comm n3.symm]
theorem ints_rel : ∀ xs : List Int, RelL K H (xs.map V.int) (xs.map T.int)
  | [] => .nil
  | x :: xs => .cons (.int x) (ints_rel xs)
theorem rel_ints : ∀ {xs : List Int} {vs : List V}, RelL K H vs (xs.map T.int) → vs = xs.map V.int
  | [], _, .nil => rfl
  | x :: xs, _, .cons h r => by cases h; rw [rel_ints r]; rfl
theorem dkv_rel : RelD K H (drawKvs lg it l t) (dkv lg it l t) :=
  .cons (k := .inr "large") (.ref lg) (.cons (k := .inr "items") (.ref it) (.cons (k := .inr "left") (.int l) (.cons (k := .inr "turn") (.int t) .nil)))
theorem rel_dkv {vs : List (Key × V)} (h : RelD K H vs (dkv lg it l t)) : vs = drawKvs lg it l t := by
  have key : ∀ {k : Key} {s : Str}, kT k = .str s → k = .inr s := by
    intro k s e
    cases k <;> simp [kT] at e
    rw [e]
  unfold dkv at h
  generalize e1 : T.str "large" = k1 at h
  generalize e2 : T.str "items" = k2 at h
  generalize e3 : T.str "left" = k3 at h
  generalize e4 : T.str "turn" = k4 at h
  cases h with
  | cons a h =>
    cases h with
    | cons b h =>
      cases h with
      | cons c h =>
        cases h with
        | cons f h =>
          cases h
          cases a; cases b; cases c; cases f
          rw [key e1.symm, key e2.symm, key e3.symm, key e4.symm]
          rfl
/-- opened: no state of draws is left, the same cells are owned -/
theorem drw_open (g : HRel K en H G) (e : G d = some (.drw n)) : ∃ lg it l t ls is, Opn d lg it l t ls is n ∧ G lg = none ∧ G it = none ∧ HRel K [] H (opn G d lg it l t ls is) ∧ (∀ b, Own H (opn G d lg it l t ls is) b ↔ Own H G b) := by
  obtain ⟨lg, it, l, t, ls, is, r⟩ := g.obj d _ e
  have n1 : d ≠ lg := fun z => by have h := r.hd; rw [z, r.hlg] at h; cases h
  have n2 : d ≠ it := fun z => by have h := r.hd; rw [z, r.hit] at h; cases h
  have o : Opn d lg it l t ls is n := ⟨n1, n2, r.ne, r.lpos, r.ipos, r.ilen, r.llen, r.l0, r.t0, r.tn⟩
  have hidl : Hid H d lg := ⟨lg, it, l, t, r.hd, .inl rfl⟩
  have hidi : Hid H d it := ⟨lg, it, l, t, r.hd, .inr rfl⟩
  have hid : ∀ b, Hid H d b → b = lg ∨ b = it := by
    rintro b ⟨lg', it', l', t', h, hb⟩
    rw [r.hd] at h
    obtain ⟨e1, e2, _, _⟩ := drawKvs_inj (HO.dK.inj (Option.some.inj h))
    subst e1 e2
    exact hb
  have nodrw : ∀ d' n', opn G d lg it l t ls is d' ≠ some (.drw n') := by
    intro d' n' z
    by_cases h1 : d' = d
    · subst h1; rw [opn_d o] at z; cases z
    by_cases h2 : d' = lg
    · subst h2; rw [opn_lg o] at z; cases z
    by_cases h3 : d' = it
    · subst h3; rw [opn_it] at z; cases z
    rw [opn_else h1 h2 h3] at z
    exact h1 (g.one _ _ _ _ z e)
  refine ⟨lg, it, l, t, ls, is, o, g.sep _ _ _ e hidl, g.sep _ _ _ e hidi, ⟨fun b u eb => ?_, fun d' n' b z => absurd z (nodrw _ _), fun d' _ n' _ z => absurd z (nodrw _ _), fun e he => by cases he⟩, fun b => ?_⟩
  · by_cases h1 : b = d
    · subst h1
      rw [opn_d o] at eb
      cases eb
      exact ⟨_, r.hd, dkv_rel⟩
    by_cases h2 : b = lg
    · subst h2
      rw [opn_lg o] at eb
      cases eb
      exact ⟨_, r.hlg, ints_rel _⟩
    by_cases h3 : b = it
    · subst h3
      rw [opn_it] at eb
      cases eb
      exact ⟨_, r.hit, ints_rel _⟩
    rw [opn_else h1 h2 h3] at eb
    exact g.obj b u eb
  · constructor
    · rintro (⟨u, z⟩ | ⟨d', n', z, _⟩)
      · by_cases h1 : b = d
        · subst h1; exact .inl ⟨_, e⟩
        by_cases h2 : b = lg
        · subst h2; exact .inr ⟨d, n, e, hidl⟩
        by_cases h3 : b = it
        · subst h3; exact .inr ⟨d, n, e, hidi⟩
        rw [opn_else h1 h2 h3] at z
        exact .inl ⟨u, z⟩
      · exact absurd z (nodrw _ _)
    · rintro (⟨u, z⟩ | ⟨d', n', z, h⟩)
      · by_cases h1 : b = d
        · subst h1; exact .inl ⟨_, opn_d o⟩
        by_cases h2 : b = lg
        · subst h2; exact .inl ⟨_, opn_lg o⟩
        by_cases h3 : b = it
        · subst h3; exact .inl ⟨_, opn_it⟩
        exact .inl ⟨u, by rw [opn_else h1 h2 h3]; exact z⟩
      · have e' := g.one _ _ _ _ z e
        subst e'
        rcases hid b h with rfl | rfl
        · exact .inl ⟨_, opn_lg o⟩
        · exact .inl ⟨_, opn_it⟩
/-- closed again -/
theorem drw_close (h1 : ∀ d' n', G d' = some (.drw n') → d' = d) (hl : G lg = none) (hi : G it = none) (o : Opn d lg it l t ls is n) (g : HRel K [] H (opn G d lg it l t ls is)) :
    HRel K [] H (gup G d (.drw n)) ∧ ∀ b, Own H (gup G d (.drw n)) b ↔ Own H (opn G d lg it l t ls is) b := by
  obtain ⟨vd, hd, rd⟩ := g.obj d _ (opn_d o)
  obtain ⟨vl, hlg, rl⟩ := g.obj lg _ (opn_lg o)
  obtain ⟨vi, hit, ri⟩ := g.obj it _ opn_it
  have e1 := rel_dkv rd
  have e2 := rel_ints rl
  have e3 := rel_ints ri
  subst e1 e2 e3
  have r : DrawR H d n lg it l t ls is := ⟨hd, hlg, hit, o.n3, o.lpos, o.ipos, o.ilen, o.llen, o.l0, o.t0, o.tn⟩
  have hid : ∀ b, Hid H d b → b = lg ∨ b = it := by
    rintro b ⟨lg', it', l', t', h, hb⟩
    rw [hd] at h
    obtain ⟨e1, e2, _, _⟩ := drawKvs_inj (HO.dK.inj (Option.some.inj h))
    subst e1 e2
    exact hb
  have isd : ∀ d' n', gup G d (.drw n) d' = some (.drw n') → d' = d := by
    intro d' n' z
    by_cases h : d' = d
    · exact h
    · rw [gup_ne h] at z
      exact h1 d' n' z
  have nod : ∀ d' n', opn G d lg it l t ls is d' ≠ some (.drw n') := by
    intro d' n' z
    by_cases h1' : d' = d
    · subst h1'; rw [opn_d o] at z; cases z
    by_cases h2 : d' = lg
    · subst h2; rw [opn_lg o] at z; cases z
    by_cases h3 : d' = it
    · subst h3; rw [opn_it] at z; cases z
    rw [opn_else h1' h2 h3] at z
    exact h1' (h1 _ _ z)
  refine ⟨⟨fun b u eb => ?_, fun d' n' b z hb => ?_, fun d' d2 n' n2 z z2 => (isd _ _ z).trans (isd _ _ z2).symm, fun e he => by cases he⟩, fun b => ?_⟩
  · by_cases hb : b = d
    · subst hb
      rw [gup_same] at eb
      cases eb
      exact ⟨lg, it, l, t, ls, is, r⟩
    · rw [gup_ne hb] at eb
      by_cases h2 : b = lg
      · subst h2; rw [hl] at eb; cases eb
      by_cases h3 : b = it
      · subst h3; rw [hi] at eb; cases eb
      exact g.obj b u (by rw [opn_else hb h2 h3]; exact eb)
  · have e' := isd _ _ z
    subst e'
    rcases hid b hb with rfl | rfl
    · rw [gup_ne o.n1.symm]; exact hl
    · rw [gup_ne o.n2.symm]; exact hi
  · constructor
    · rintro (⟨u, z⟩ | ⟨d', n', z, h⟩)
      · by_cases hb : b = d
        · subst hb; exact .inl ⟨_, opn_d o⟩
        · rw [gup_ne hb] at z
          by_cases h2 : b = lg
          · subst h2; rw [hl] at z; cases z
          by_cases h3 : b = it
          · subst h3; rw [hi] at z; cases z
          exact .inl ⟨u, by rw [opn_else hb h2 h3]; exact z⟩
      · have e' := isd _ _ z
        subst e'
        rcases hid b h with rfl | rfl
        · exact .inl ⟨_, opn_lg o⟩
        · exact .inl ⟨_, opn_it⟩
    · rintro (⟨u, z⟩ | ⟨d', n', z, _⟩)
      · by_cases hb : b = d
        · subst hb; exact .inl ⟨_, gup_same⟩
        by_cases h2 : b = lg
        · subst h2; exact .inr ⟨d, n, gup_same, ⟨b, it, l, t, hd, .inl rfl⟩⟩
        by_cases h3 : b = it
        · subst h3; exact .inr ⟨d, n, gup_same, ⟨lg, b, l, t, hd, .inr rfl⟩⟩
        rw [opn_else hb h2 h3] at z
        exact .inl ⟨u, by rw [gup_ne hb]; exact z⟩
      · exact absurd z (nod _ _)
end
/-- how many draws a law may make -/
def mostDraws : Nat := 10 ^ 9
def spTake : Sp2 := fun ts G Φ _ => ∃ d sz n, ts = [.ref d, .int sz] ∧ G d = some (.drw n) ∧ (0 < sz ∧ sz < 2 ^ 30) ∧ n < mostDraws ∧ ∀ r, 0 ≤ r → r < sz → Φ (.int r) (gup G d (.drw (n + 1)))
def spTake0 : Sp2 := fun ts G Φ _ => ∃ d sz n G0 lg it l t ls is, ts = [.ref d, .int sz] ∧ G = opn G0 d lg it l t ls is ∧ Opn d lg it l t ls is n ∧ (0 < sz ∧ sz < 2 ^ 30) ∧ n < mostDraws ∧
  ∀ r l' t' ls', 0 ≤ r → r < sz → Opn d lg it l' t' ls' is (n + 1) → Φ (.int r) (opn G0 d lg it l' t' ls' is)
theorem take_open {K : Fr0} : ∀ vs H Q E, lowSp K spTake vs H Q E → lowSp K spTake0 vs H Q E := by
  rintro vs H Q E ⟨ts, G, Φ, ΦE, r, g, ⟨d, sz, n, rfl, e, hsz, hn, q⟩, k1, k2⟩
  obtain ⟨lg, it, l, t, ls, is, o, hl, hi, g1, own⟩ := drw_open g e
  refine ⟨_, opn G d lg it l t ls is, fun u G' => ∃ r l' t' ls', u = .int r ∧ 0 ≤ r ∧ r < sz ∧ Opn d lg it l' t' ls' is (n + 1) ∧ G' = opn G d lg it l' t' ls' is, fun _ _ _ => False, r, g1,
    ⟨d, sz, n, G, lg, it, l, t, ls, is, rfl, rfl, o, hsz, hn, fun r l' t' ls' h1 h2 o' => ⟨r, l', t', ls', rfl, h1, h2, o', rfl⟩⟩, ?_, fun _ _ _ _ _ _ z => z.elim⟩
  rintro u G' v H' ⟨r, l', t', ls', rfl, h1, h2, o', rfl⟩ rv g' s'
  obtain ⟨g2, own2⟩ := drw_close (fun d' n' z => g.one _ _ _ _ z e) hl hi o' g'
  refine k1 _ _ v H' (q r h1 h2) rv g2 ⟨fun a u ea na => ?_, s'.al⟩
  obtain ⟨z1, z2⟩ := s'.fr a u ea (fun z => na ((own a).mp z))
  exact ⟨z1, fun z => z2 ((own2 a).mp z)⟩
theorem kn_take {P : Program} {w : World} {K : Fr0} {mg : Str → Option Value} {base : Heap} {k : Nat} {x : Str} (F : Kn P w K mg base k x spTake0 []) : Kn P w K mg base k x spTake [] := by
  obtain ⟨f, fd, ps, dvs, ds, a, r⟩ := F.ex
  exact ⟨f, fd, ps, dvs, ds, a.imp take_open, r⟩
end Dv
namespace Dv
open PySem PySem.Spec L2
/-! ### statements one by one -/
section
variable {a b : LS} {L : LEnds} {S : S2} {G : Gp}
/-- the first statement; behind it nothing is forgotten -/
theorem sq {M : S2 → Gp → Prop} (k : ∀ S' G', M S' G' → b L S' G') (h : ∀ R : S2 → Gp → Prop, (∀ S' G' G0, Sub G0 G' → M S' G0 → R S' G') → a ⟨R, L.rt, L.bk, L.ct⟩ S G) : lSeq a b L S G :=
  h _ fun S' G' G0 sb m => ⟨G0, sb, k S' G0 m⟩
/-- behind the statement: what stands here -/
theorem sq1 {S1 : S2} {G1 : Gp} (h : ∀ R : S2 → Gp → Prop, (∀ G', Sub G1 G' → R S1 G') → a ⟨R, L.rt, L.bk, L.ct⟩ S G) (k : b L S1 G1) : lSeq a b L S G :=
  sq (M := fun S' G' => S' = S1 ∧ G' = G1) (fun S' G' ⟨e1, e2⟩ => by rw [e1, e2]; exact k) fun R hR => h R fun G' sb => hR S1 G' G1 sb ⟨rfl, rfl⟩
theorem forW_ind {f : T → S2 → Option S2} {b : LS} {Keep : Gp → Prop} (I : List T → S2 → Gp → Prop) (h0 : ∀ S G, I [] S G → Keep G ∧ L.nx S G)
    (h1 : ∀ t r S G, I (t :: r) S G → Keep G ∧ ∃ S', f t S = some S' ∧ ∀ R : S2 → Gp → Prop, (∀ S1 G1 G0, Sub G0 G1 → I r S1 G0 → R S1 G1) → b ⟨R, L.rt, L.nx, R⟩ S' G) :
    ∀ items S G, I items S G → forW L f b Keep items S G
  | [], S, G, i => h0 S G i
  | t :: r, S, G, i => by
    obtain ⟨kp, S', e, h⟩ := h1 t r S G i
    refine ⟨kp, ?_⟩
    rw [e]
    exact h (fun S1 G1 => ∃ G0, Sub G0 G1 ∧ forW L f b Keep r S1 G0) fun S1 G1 G0 sb i' => ⟨G0, sb, forW_ind I h0 h1 r S1 G0 i'⟩
theorem lcW_ind {Keep : Gp → Prop} {f : T → S2 → Option S2} {vs : List Nat} {tt : LT} {te : LE} {Fin : List T → Gp → Prop} {S : S2} (I : List T → List T → Gp → Prop) (h0 : ∀ acc G, I [] acc G → Keep G ∧ Fin acc G)
    (h1 : ∀ t r acc G, I (t :: r) acc G → Keep G ∧ ∃ S2, f t (wipe2 S vs) = some S2 ∧ ∀ R : List T → Gp → Prop, (∀ acc G1 G0, Sub G0 G1 → I r acc G0 → R acc G1) →
      tt S2 G fun b G1 => if b = true then te S2 G1 fun y G2 => acc.length < sizeLine ∧ R (acc ++ [y]) G2 else R acc G1) : ∀ items acc G, I items acc G → lcW Keep f vs tt te Fin S items acc G
  | [], acc, G, i => h0 acc G i
  | t :: r, acc, G, i => by
    obtain ⟨kp, S2, e, h⟩ := h1 t r acc G i
    refine ⟨kp, ?_⟩
    rw [e]
    exact h (fun acc G1 => ∃ G0, Sub G0 G1 ∧ lcW Keep f vs tt te Fin S r acc G0) fun acc G1 G0 sb i' => ⟨G0, sb, lcW_ind I h0 h1 r acc G0 i'⟩
theorem dcW_ind {Keep : Gp → Prop} {f : T → S2 → Option S2} {vs : List Nat} {tt : LT} {tk tv : LE} {Fin : List (T × T) → Gp → Prop} {S : S2} (I : List T → List (T × T) → Gp → Prop) (h0 : ∀ acc G, I [] acc G → Keep G ∧ Fin acc G)
    (h1 : ∀ t r acc G, I (t :: r) acc G → Keep G ∧ ∃ S2, f t (wipe2 S vs) = some S2 ∧ ∀ R : List (T × T) → Gp → Prop, (∀ acc G1 G0, Sub G0 G1 → I r acc G0 → R acc G1) →
      tt S2 G fun b G1 => if b = true then tk S2 G1 fun y G2 => tv S2 G2 fun z G3 => acc.length < sizeLine ∧ (keyT y).isSome = true ∧ R (dput acc y z) G3 else R acc G1) : ∀ items acc G, I items acc G → dcW Keep f vs tt tk tv Fin S items acc G
  | [], acc, G, i => h0 acc G i
  | t :: r, acc, G, i => by
    obtain ⟨kp, S2, e, h⟩ := h1 t r acc G i
    refine ⟨kp, ?_⟩
    rw [e]
    exact h (fun acc G1 => ∃ G0, Sub G0 G1 ∧ dcW Keep f vs tt tk tv Fin S r acc G0) fun acc G1 G0 sb i' => ⟨G0, sb, dcW_ind I h0 h1 r acc G0 i'⟩
/-- a comprehension whose test and item are read off -/
theorem lc_pure {Keep : Gp → Prop} {f : T → S2 → Option S2} {vs : List Nat} {tt : LT} {te : LE} {Fin : List T → Gp → Prop} {S : S2} {G : Gp} (p : T → Bool) (g : T → T) {items : List T} (hK : Keep G) (hl : items.length ≤ sizeLine)
    (h : ∀ t ∈ items, ∃ S2, f t (wipe2 S vs) = some S2 ∧ (∀ Φ : Bool → Gp → Prop, (∀ G', Sub G G' → Φ (p t) G') → tt S2 G Φ) ∧ (p t = true → ∀ G', Sub G G' → ∀ Φ : QT, (∀ G'', Sub G' G'' → Φ (g t) G'') → te S2 G' Φ))
    (k : Fin ((items.filter p).map g) G) : lcW Keep f vs tt te Fin S items [] G := by
  refine lcW_ind (I := fun r acc G' => G' = G ∧ ∃ q, items = q ++ r ∧ acc = (q.filter p).map g) (fun acc G' ⟨e, q, h1, h2⟩ => ?_) (fun t r acc G' ⟨e, q, h1, h2⟩ => ?_) items [] G ⟨rfl, [], rfl, rfl⟩
  · subst e
    rw [List.append_nil] at h1
    subst h1 h2
    exact ⟨hK, k⟩
  · subst e
    obtain ⟨S2, e1, e2, e3⟩ := h t (by rw [h1]; simp)
    refine ⟨hK, S2, e1, fun R hR => e2 _ fun G1 sb => ?_⟩
    have hlen : acc.length < sizeLine := by
      rw [h2, List.length_map]
      have := List.length_filter_le p q
      rw [h1, List.length_append, List.length_cons] at hl
      omega
    cases hp : p t with
    | true =>
      simp only [if_true]
      refine e3 hp G1 sb _ fun G2 sb2 => ⟨hlen, hR _ _ G' (sb.trans sb2) ⟨rfl, q ++ [t], by rw [h1]; simp, by rw [h2]; simp [hp]⟩⟩
    | false =>
      simp only [Bool.false_eq_true, if_false]
      exact hR _ _ G' sb ⟨rfl, q ++ [t], by rw [h1]; simp, by rw [h2]; simp [hp]⟩
end
/-! ### slices -/
theorem cut_from {α : Type} (xs : List α) (k : Nat) : cut xs (some (k : Int)) none = xs.drop k := by
  unfold cut
  rw [HT.sIx_nat, HT.sIx_none]
  by_cases h : k ≤ xs.length
  · rw [Nat.min_eq_left h, List.take_of_length_le (by rw [List.length_drop]; omega)]
  · rw [Nat.min_eq_right (by omega), List.drop_of_length_le (Nat.le_refl _), List.drop_of_length_le (by omega)]
    simp
theorem cut_to {α : Type} (xs : List α) (k : Nat) : cut xs none (some (k : Int)) = xs.take k := by
  unfold cut
  rw [HT.sIx_nat, HT.sIx_none]
  simp only [List.drop_zero, Nat.sub_zero]
  by_cases h : k ≤ xs.length
  · rw [Nat.min_eq_left h]
  · rw [Nat.min_eq_right (by omega), List.take_of_length_le (Nat.le_refl _), List.take_of_length_le (by omega)]
theorem sIx_neg (n d k : Nat) (h : 0 < k) : HT.sIx n d (some (-(k : Int))) = n - k := by
  show (if (-(k : Int)) < 0 then (-(k : Int) + (n : Int)).toNat else min (-(k : Int)).toNat n) = n - k
  rw [if_pos (by omega)]
  omega
theorem cut_toNeg {α : Type} (xs : List α) (k : Nat) (h : 0 < k) : cut xs none (some (-(k : Int))) = xs.take (xs.length - k) := by
  unfold cut
  rw [sIx_neg _ _ _ h, HT.sIx_none]
  simp
theorem cut_fromNeg {α : Type} (xs : List α) (k : Nat) (h : 0 < k) : cut xs (some (-(k : Int))) none = xs.drop (xs.length - k) := by
  unfold cut
  rw [sIx_neg _ _ _ h, HT.sIx_none]
  rw [List.take_of_length_le (by rw [List.length_drop]; omega)]
theorem atI_neg {α : Type} {xs : List α} {k : Nat} (h0 : 0 < k) (h : k ≤ xs.length) : atI xs (-(k : Int)) = xs[xs.length - k]? := by
  unfold atI ixN
  rw [if_neg (by omega), if_pos (by omega)]
  show xs[(-(k : Int) + (xs.length : Int)).toNat]? = _
  rw [show (-(k : Int) + (xs.length : Int)).toNat = xs.length - k by omega]
/-! ### operations read off -/
section
variable {G : Gp} {a b p : Addr} {t u v : T} {xs ys : List T} {kvs : List (T × T)} {i j : Int} {s : Str} {Φ : QT}
theorem ixT_dic (h : G a = some (.dic kvs)) (hk : (keyT u).isSome = true) (hl : dlook kvs u = some t) : ixT (.ref a) u G Φ = Φ t G := by
  obtain ⟨k, e⟩ := Option.isSome_iff_exists.mp hk
  simp [ixT, h, e, hl]
theorem ixT_lst (h : G a = some (.lst xs)) (hl : atI xs i = some t) : ixT (.ref a) (.int i) G Φ = Φ t G := by
  simp [ixT, h, hl]
theorem ixT_tup (hl : atI xs i = some t) : ixT (.tup xs) (.int i) G Φ = Φ t G := by
  simp [ixT, hl]
theorem atT_nat {α : Type} {xs : List α} {n : Nat} (h : n < xs.length) : atI xs (n : Int) = xs[n]? := by
  unfold atI ixN
  simp [show (n : Int) < (xs.length : Int) by omega, show ¬ ((n : Int) < 0) by omega]
theorem lenT_lst (h : G a = some (.lst xs)) : lenT [.ref a] G Φ = Φ (.int (xs.length : Int)) G := by simp [lenT, h]
theorem lenT_dic (h : G a = some (.dic kvs)) : lenT [.ref a] G Φ = Φ (.int (kvs.length : Int)) G := by simp [lenT, h]
theorem lenT_tup : lenT [.tup xs] G Φ = Φ (.int (xs.length : Int)) G := by simp [lenT]
theorem setT_dic {Ψ : Gp → Prop} (h : G a = some (.dic kvs)) (hk : (keyT u).isSome = true) : setT (.ref a) u v G Ψ = (kvs.length < sizeLine ∧ Ψ (gup G a (.dic (dput kvs u v)))) := by
  obtain ⟨k, e⟩ := Option.isSome_iff_exists.mp hk
  simp [setT, h, e]
theorem itT_lst {Ψ : List T → (Gp → Prop) → Gp → Prop} (h : G a = some (.lst xs)) (q : Ψ xs (fun G' => G' a = some (.lst xs)) G) : itT (.ref a) G Ψ := by simp only [itT, h]; exact q
theorem itT_dic {Ψ : List T → (Gp → Prop) → Gp → Prop} {ob : Obj} {raw : List (Key × V)} (h : G a = some (.fdic ob raw kvs)) (q : Ψ (kvs.map (·.1)) (fun G' => G' a = some (.fdic ob raw kvs)) G) : itT (.ref a) G Ψ := by simp only [itT, h]; exact q
theorem fresh_ne {o : O} {p : Addr} (h : G a = some o) (hp : G p = none) : p ≠ a := fun z => by rw [z, h] at hp; cases hp
theorem setT_dicI {Ψ : Gp → Prop} (h : G a = some (.dic kvs)) (hl : kvs.length < sizeLine) (q : Ψ (gup G a (.dic (dput kvs u v)))) (hk : (keyT u).isSome = true := by rfl) : setT (.ref a) u v G Ψ := by
  rw [setT_dic h hk]; exact ⟨hl, q⟩
theorem ixT_dicI (h : G a = some (.dic kvs)) (hl : dlook kvs u = some t) (q : Φ t G) (hk : (keyT u).isSome = true := by rfl) : ixT (.ref a) u G Φ := by rw [ixT_dic h hk hl]; exact q
theorem ixT_lstI (h : G a = some (.lst xs)) (hl : atI xs i = some t) (q : Φ t G) : ixT (.ref a) (.int i) G Φ := by rw [ixT_lst h hl]; exact q
theorem ixT_tupI (hl : atI xs i = some t) (q : Φ t G) : ixT (.tup xs) (.int i) G Φ := by rw [ixT_tup hl]; exact q
theorem lenT_lstI (h : G a = some (.lst xs)) (q : Φ (.int (xs.length : Int)) G) : lenT [.ref a] G Φ := by rw [lenT_lst h]; exact q
theorem lenT_dicI (h : G a = some (.dic kvs)) (q : Φ (.int (kvs.length : Int)) G) : lenT [.ref a] G Φ := by rw [lenT_dic h]; exact q
theorem atI_0 {α : Type} {x : α} {r : List α} : atI (x :: r) 0 = some x := by
  unfold atI ixN
  rw [if_pos (Int.le_refl 0), if_pos (by simp only [List.length_cons]; omega)]
  rfl
theorem atI_1 {α : Type} {x y : α} {r : List α} : atI (x :: y :: r) 1 = some y := by
  unfold atI ixN
  rw [if_pos (by decide), if_pos (by simp only [List.length_cons]; omega)]
  rfl
theorem atI_2 {α : Type} {x y z : α} {r : List α} : atI (x :: y :: z :: r) 2 = some z := by
  unfold atI ixN
  rw [if_pos (by decide), if_pos (by simp only [List.length_cons]; omega)]
  rfl
theorem ixT0 {x : T} {r : List T} (q : Φ x G) : ixT (.tup (x :: r)) (.int 0) G Φ := ixT_tupI atI_0 q
theorem ixT1 {x y : T} {r : List T} (q : Φ y G) : ixT (.tup (x :: y :: r)) (.int 1) G Φ := ixT_tupI atI_1 q
theorem ixT2 {x y z : T} {r : List T} (q : Φ z G) : ixT (.tup (x :: y :: z :: r)) (.int 2) G Φ := ixT_tupI atI_2 q
theorem gup_self {o : O} (h : G a = some o) : gup G a o = G := by
  funext b
  by_cases e : b = a
  · subst e; rw [gup_same, h]
  · rw [gup_ne e]
theorem lock_back {o x y : O} (hd : G a = some o) (hp : p ≠ a) : gup (gup (gup G a x) p y) a o = gup G p y := by
  rw [gup_comm hp, gup_gup, gup_self hd]
theorem isi_dic (h : G a = some (.dic kvs)) (q : Φ (.bl true) G) : isiT [.ref a, .ty "dict"] G Φ := by
  refine ⟨by decide, ?_⟩
  simp only [tyS, h]
  exact q
theorem lenT_tupI (q : Φ (.int (xs.length : Int)) G) : lenT [.tup xs] G Φ := q
theorem appT_lst (h : G a = some (.lst xs)) : appT (.ref a) [u] G Φ = (xs.length < sizeLine ∧ Φ .non (gup G a (.lst (xs ++ [u])))) := by simp [appT, h]
theorem popT_at {n : Nat} (h : G a = some (.lst xs)) (hi : i = n) (hn : n < 2 ^ 63) (hx : xs[n]? = some u) : popT (.ref a) [.int i] G Φ = Φ u (gup G a (.lst (xs.eraseIdx n))) := by
  subst hi
  simp [popT, h, hx]
  intro _; omega
theorem appT_lstI (h : G a = some (.lst xs)) (hl : xs.length < sizeLine) (q : Φ .non (gup G a (.lst (xs ++ [u])))) : appT (.ref a) [u] G Φ := by rw [appT_lst h]; exact ⟨hl, q⟩
theorem popT_atI {n : Nat} (h : G a = some (.lst xs)) (hi : i = n) (hn : n < 2 ^ 63) (hx : xs[n]? = some u) (q : Φ u (gup G a (.lst (xs.eraseIdx n)))) : popT (.ref a) [.int i] G Φ := by rw [popT_at h hi hn hx]; exact q
theorem tyT_lst (h : G a = some (.lst xs)) : tyT "list" (.ref a) G := by simp [tyT, h]
theorem tyT_dic (h : G a = some (.dic kvs)) : tyT "dict" (.ref a) G := by simp [tyT, h]
theorem neT_scal {t u : T} (h : scalT t u = true) (q : Φ (.bl (!decide (t = u))) G) : neT t u G Φ := by unfold neT; rw [if_pos h]; exact q
theorem eqT_scal {t u : T} (h : scalT t u = true) (q : Φ (.bl (decide (t = u))) G) : eqT t u G Φ := by unfold eqT; rw [if_pos h]; exact q
theorem addT_int (q : Φ (.int (i + j)) G) : addT (.int i) (.int j) G Φ := q
theorem addT_lst (ha : G a = some (.lst xs)) (hb : G b = some (.lst ys)) (hl : xs.length + ys.length ≤ sizeLine) (q : ∀ p, G p = none → Φ (.ref p) (gup G p (.lst (xs ++ ys)))) : addT (.ref a) (.ref b) G Φ := by
  simp only [addT, ha, hb]
  exact ⟨by rw [List.length_append]; exact hl, q⟩
theorem mulT_int (hc : -(2 ^ 64) < i ∧ i < 2 ^ 64) (q : Φ (.int (i * j)) G) : mulT (.int i) (.int j) G Φ := ⟨.inl hc, q⟩
end
end Dv
namespace Dv
open PySem PySem.Spec PyProof.Rows L2
/-! ### the script: a list that stands still, and is not told of -/
def SqG (K : Fr0) (H : Hp) (G : Gp) (a : Addr) (ns : List Int) : Prop := (∃ o, H a = some (.frz o (.lst (ns.map V.int))) ∧ ¬ Own H G a) ∨
    ∃ (o : Obj) (its : Array Value) (n : Nat), K.lookup a = some o ∧ o.cls = .type "list" ∧ o.dict = none ∧ o.data = .seq its n ∧ its.size ≤ sizeLine ∧ Vals (ns.map V.int) its.toList
theorem SqG.sq {K : Fr0} {H : Hp} {G : Gp} {a : Addr} {ns : List Int} (h : SqG K H G a ns) : SqL K H a (ns.map V.int) := h.elim (fun ⟨o, e, _⟩ => .inl (.inr ⟨o, e⟩)) fun h => .inr h
theorem SqG.of {K : Fr0} {H : Hp} {a : Addr} {ns : List Int} (hO : Only H) (h : SqL K H a (ns.map V.int)) : SqG K H (fun _ => none) a ns := by
  rcases h with (h | ⟨o, h⟩) | h
  · rcases hO a with z | ⟨o, xs, z⟩
    · rw [z] at h; cases h
    · rw [z] at h; cases h
  · exact .inl ⟨o, h, fun z => z.elim (fun ⟨o, e⟩ => by cases e) fun ⟨d, n, e, _⟩ => by cases e⟩
  · exact .inr h
theorem SqG.step {K : Fr0} {H H' : Hp} {G G' : Gp} {a : Addr} {ns : List Int} (h : SqG K H G a ns) (s : Step H G H' G') : SqG K H' G' a ns := h.elim (fun ⟨o, e, no⟩ => .inl ⟨o, s.fr a _ e no⟩) .inr
section
variable {X : Cx} {tg e : Expr} {la : LE}
theorem ok_scr {K : Fr0} {en : En} {a : Addr} {ns : List Int} (hS : ∀ H G, HRel K en H G → SqL K H a (ns.map V.int)) : ItOk K en (Itl K a) (ns.map T.int) (fun _ => True) (fun _ => True) where
  stab := fun _ _ _ h => h
  go := fun i H G g _ _ hi => by
    have hi' : i < ns.length := by simpa using hi
    exact ⟨_, .int ns[i], hS H G g, by simp [hi']⟩
  stop := fun i H G g _ _ hi => ⟨_, hS H G g, by simpa using hi⟩
  yld := fun i H G x H' g _ _ y hi => by
    obtain ⟨e, y⟩ := y
    subst e
    have hi' : i < ns.length := by simpa using hi
    have e := y _ (hS _ G g)
    rw [List.getElem?_map, List.getElem?_eq_getElem hi'] at e
    cases e
    exact ⟨.int ns[i], by simp [hi'], .int _, g, Step.refl _ _⟩
theorem i_scr {a : Addr} {ns : List Int} (hS : ∀ H G, HRel X.K en H G → SqL X.K H a (ns.map V.int)) (h : E en X e la) : Ei en X tg e (fun S G Ψ => la S G fun t G1 => t = .ref a ∧ Ψ (ns.map T.int) (fun _ => True) G1) := by
  refine PI.weak (pi_list h) fun σ H R ⟨S, G, Ψ, s, g, q, k⟩ => ?_
  refine ⟨S, G, _, s, g, q, fun t G1 v H1 q1 r1 g1 s1 => ?_⟩
  obtain ⟨e, q1⟩ := q1
  subst e
  cases r1
  exact ⟨a, rfl, ⟨_, hS H1 G1 g1⟩, k _ _ _ _ _ _ q1 g1 s1 (ok_scr hS) True.intro⟩
end
/-! ### _law_begin -/
def spBegin : Sp2 := fun ts G Φ _ => ∃ a, ts = [.ref a] ∧ (∀ d n, G d ≠ some (.drw n)) ∧ ∀ d, G d = none → Φ (.ref d) (gup G d (.drw 0))
def spBegin0 : Sp2 := fun ts G Φ _ => ∃ a, ts = [.ref a] ∧ ∀ d lg it ls is, G d = none → G lg = none → G it = none → Opn d lg it 0 0 ls is 0 → Φ (.ref d) (opn G d lg it 0 0 ls is)
def spPick : Sp2 := fun ts G Φ _ => ∃ d a n xs, ts = [.ref d, .ref a] ∧ G d = some (.drw n) ∧ G a = some (.lst xs) ∧ 0 < xs.length ∧ xs.length < 2 ^ 30 ∧ n < mostDraws ∧ ∀ x ∈ xs, Φ x (gup G d (.drw (n + 1)))
/-- over a script of at most 63 numbers -/
def lowScr (K : Fr0) (sp : Sp2) : Sp := fun vs H Q E => ∃ a ns G Φ ΦE, vs = [.ref a] ∧ SqG K H G a ns ∧ ns.length ≤ 63 ∧ HRel K [] H G ∧ sp [.ref a] G Φ ΦE ∧ (∀ t G' v H', Φ t G' → Rel K H' v t → HRel K [] H' G' → Step H G H' G' → Q v H') ∧ OutX K H G ΦE E
theorem begin_open {K : Fr0} : ∀ vs H Q E, lowScr K spBegin vs H Q E → lowScr K spBegin0 vs H Q E := by
  rintro vs H Q E ⟨a, ns, G, Φ, ΦE, e, hS, hn, g, ⟨a', e', hd, q⟩, k1, k2⟩
  refine ⟨a, ns, G, fun u G' => ∃ d lg it ls is, u = .ref d ∧ G d = none ∧ G lg = none ∧ G it = none ∧ Opn d lg it 0 0 ls is 0 ∧ G' = opn G d lg it 0 0 ls is, fun _ _ _ => False, e, hS, hn, g,
    ⟨a, rfl, fun d lg it ls is h1 h2 h3 o => ⟨d, lg, it, ls, is, rfl, h1, h2, h3, o, rfl⟩⟩, ?_, fun _ _ _ _ _ _ z => z.elim⟩
  rintro u G' v H' ⟨d, lg, it, ls, is, rfl, h1, h2, h3, o, rfl⟩ rv g' s'
  obtain ⟨g2, own2⟩ := drw_close (d := d) (lg := lg) (it := it) (G := G) (fun d' n' z => absurd z (hd d' n')) h2 h3 o g'
  refine k1 _ _ v H' (q d h1) rv g2 ⟨fun a u ea na => ?_, s'.al⟩
  obtain ⟨z1, z2⟩ := s'.fr a u ea na
  exact ⟨z1, fun z => z2 ((own2 a).mp z)⟩
section
variable {P : Program} {w : World} {K : Fr0} {mg : Str → Option Value} {base : Heap} {x : Str} {k : Nat}
structure KnB (P : Program) (w : World) (K : Fr0) (mg : Str → Option Value) (base : Heap) (k : Nat) (x : Str) (sp : Sp2) : Prop where
  ex : ∃ (f : Addr) (fd : FuncData) (ps : List Str), FnOk P w K mg base (L2.CX P w) k f fd ps (lowScr K sp) ∧ mg x = some (.ref f) ∧ PySem.W.keepIn K (.ref f) = true ∧ Binds K fd ps []
theorem knB_begin (F : KnB P w K mg base k x spBegin0) : KnB P w K mg base k x spBegin := by
  obtain ⟨f, fd, ps, a, r⟩ := F.ex
  exact ⟨f, fd, ps, a.imp begin_open, r⟩
/-- a def over the script: its body -/
abbrev BodyB (P : Program) (w : World) (K : Fr0) (mg : Str → Option Value) (base : Heap) (N : List Str) (x : Str) (st : Stmt) (f : Addr) (k : Nat) (sp : Sp2) : Prop :=
  ∀ (cdv : Value) (A : Around) (outer : List PySem.Env) (s : Shared) (H : Hp) (E : XK) (G : Gp) (Φ : QT) (ΦE : XK2) (a : Addr) (ns : List Int), Room k (A.deeper (envOfC x (defScope st) s.heap.objs.size f cdv)) → OutX K H G ΦE E →
      ns.length ≤ 63 → (∀ H' G', HRel K [(H, G)] H' G' → SqG K H' G' a ns) → sp [.ref a] G Φ ΦE → ∃ l, Ess [(H, G)] (bx P w K mg base N x (defScope st) f cdv A outer s H E) (defBody st) l ∧ l (bodyL Φ) (slots0 N [.ref a]) G
theorem fnB_of {st : Stmt} {N ps : List Str} {sp : Sp2} {f : Addr} {fd : FuncData} (F : Fun K x x st f fd) (S : FnScope N ps (defScope st)) (len : ps.length = 1) (hbody : BodyB P w K mg base N x st f k sp) : FnOk P w K mg base (L2.CX P w) (k + 1) f fd ps (lowScr K sp) := by
  refine F.okX S (fun vs H Q E ⟨a, ns, G, Φ, ΦE, e, _⟩ => by rw [e, len]; rfl) (fun cdv A outer s H vs Q E hr h => ?_)
  obtain ⟨a, ns, G, Φ, ΦE, rfl, hS, hn, g, q, k1, k2⟩ := h
  obtain ⟨l, b, q2⟩ := hbody cdv A outer s H E G Φ ΦE a ns hr k2 hn (fun H' G' g' => hS.step (g'.hist _ (List.mem_singleton.mpr rfl))) q
  exact ⟨_, b, slots0 N _, G, bodyL Φ, srel_start (.cons (.ref a) .nil), g.enter, q2, ends_body k1⟩
theorem knB_of {st : Stmt} {N ps : List Str} {sp : Sp2} (D : Df K mg x st ps) (S : FnScope N ps (defScope st)) (len : ps.length = 1) (hbody : ∀ f, BodyB P w K mg base N x st f k sp) : KnB P w K mg base (k + 1) x sp := by
  obtain ⟨f, fd, F, hm, hb⟩ := D.ex
  exact ⟨f, fd, ps, fnB_of F S len (hbody f), hm, F.kp, hb⟩
end
section
variable {X : Cx} {e : Expr} {la : LE} {pos p : Pos} {k : Nat} {x : Str} {sp : Sp2}
/-- the call of such a def with the script -/
theorem e_knB {a : Addr} {ns : List Int} (F : KnB X.prog X.w X.K X.mg X.base k x sp) (hn : ns.length ≤ 63) (hS : ∀ H G, HRel X.K en H G → SqG X.K H G a ns) (hr : Room k X.A) (ha : E en X e la) (hg : Gl X x := by rfl) (hdb : (x == ("__debug__" : Str)) = false := by decide)
    (he : starEach [e] X.env = (false, eval e X.env) :: starEach [] X.env := by rfl) : E en X (.Call (.Name x p) [e] [] pos) (fun S G Φ => la S G fun t G1 => t = .ref a ∧ sp [.ref a] G1 Φ noX) := by
  obtain ⟨f, fd, ps, F, hm, hk, hb⟩ := F.ex
  refine PE.weak (pe_call (E := lowX X.K en noX) F hr hg hm hk hb .nil passN (pa_cons ha pa_nil he) hdb he) fun σ H Q ⟨S, G, Φ, s, g, q, kk⟩ => ?_
  refine ⟨S, G, _, s, g, q, fun t G1 v H1 q1 r1 g1 s1 => ?_⟩
  obtain ⟨e1, q1⟩ := q1
  subst e1
  cases r1
  exact ⟨a, ns, G1, Φ, noX, rfl, hS H1 G1 g1, hn, g1.nil, q1, fun t G' v H' a b c d => kk t G' v H' a b (g1.back c d) (s1.trans d), fun C fs G' H' cls d a b c d' => a.elim⟩
end
end Dv
namespace Dv
open PySem PySem.Spec PyProof.Rows L2
/-! ### tuples whose object is known to have no dict (t.index(x)) -/
section
variable {X : Cx} {a b e o : Expr} {es : List Expr} {la lb : LE} {l : LA} {pos apos cpos : Pos}
def tupObj (us : List Value) : Obj := { cls := .type "tuple", data := .seq us.toArray }
theorem frz_new {P : Program} {w : World} {H : Hp} {h : Heap} {p : Addr} {xs : List V} {us : List Value} (hz : xs.length ≤ sizeLine) (r : Vals xs us) (e : h.get? p = some (tupObj us)) : ObjOk P w H h p (.frz (tupObj us) (.tup xs)) :=
  ⟨e, hz, us, r, ⟨_, e, rfl, _, rfl⟩⟩
def tPTup (t : TA) : TE := fun σ H Q => t σ H fun xs H1 => xs.length ≤ sizeLine ∧ ∀ p ob, H1 p = none → ob.dict = none → Q (.ref p) (L2.upd H1 p (.frz ob (.tup xs)))
theorem pe_ptup {t : TA} {x1} (h : PA X es t) : PE X (.Tuple es x1 pos) (tPTup t) := by
  refine ⟨fun pins s σ H Q I hq => ?_⟩
  refine wpAny_Tuple_spliced (thn (h.run pos pins s σ H _ I hq) fun us s1 ⟨xs, H1, I1, r, z, q⟩ => ⟨by rw [← r.length]; exact z, ?_⟩)
  have hf : H1 s1.heap.objs.size = none := I1.hok.fresh (Nat.le_refl _)
  exact ⟨.ref s1.heap.objs.size, L2.upd H1 s1.heap.objs.size (.frz (tupObj us) (.tup xs)), I1.laid (t' := s1.toks) (fun b u e => Heap.get?_push_of_some _ e) (Nat.le_refl _) (frz_new z r (Heap.get?_push_size _ rfl)), rfl, q _ _ hf rfl⟩
theorem ptup_laid {K : Fr0} {H : Hp} {G : Gp} {p : Addr} {ob : Obj} {vs : List V} {ts : List T} (g : HRel K en H G) (hp : H p = none) (hd : ob.dict = none) (r : RelL K H vs ts) :
    Rel K (L2.upd H p (.frz ob (.tup vs))) (.ref p) (.ptup ts) ∧ HRel K en (L2.upd H p (.frz ob (.tup vs))) G ∧ Step H G (L2.upd H p (.frz ob (.tup vs))) G := by
  obtain ⟨g1, s1, st⟩ := g.laid (ho := .frz ob (.tup vs)) hp
  exact ⟨.ptup upd_same hd (r.stay st), g1, s1⟩
def lPTup (l : LA) : LE := fun S G Φ => l S G fun ts G1 => ts.length ≤ sizeLine ∧ Φ (.ptup ts) G1
theorem e_ptup {k : Nat} (h : Ea en X es l) : E en X (.Tuple es k pos) (lPTup l) := by
  refine PE.weak (pe_ptup h) fun σ H Q ⟨S, G, Φ, s, g, q, k⟩ => ?_
  refine ⟨S, G, _, s, g, q, fun ts G1 vs H1 q1 r1 g1 s1 => ⟨by rw [r1.length]; exact q1.1, fun p ob hp hd => ?_⟩⟩
  obtain ⟨r2, g2, s2⟩ := ptup_laid g1 hp hd r1
  exact k _ _ _ _ q1.2 r2 g2 (s1.trans s2)
/-- read as any tuple -/
def unP : T → T
  | .ptup ts => .tup ts
  | t => t
theorem Rel.unP {K : Fr0} {H : Hp} {v : V} {t : T} (h : Rel K H v t) : Rel K H v (unP t) := by
  cases h with
  | ptup h d r => exact .tup (.inl (.inr ⟨_, h⟩)) r
  | non => exact .non
  | bl b => exact .bl b
  | int i => exact .int i
  | str x => exact .str x
  | ty n => exact .ty n
  | ref a => exact .ref a
  | tup h r => exact .tup h r
def lUnP (la : LE) : LE := fun S G Φ => la S G fun t G1 => Φ (unP t) G1
theorem e_unP (h : E en X e la) : E en X e (lUnP la) := PE.weak h fun σ H Q ⟨S, G, Φ, s, g, q, k⟩ => ⟨S, G, _, s, g, q, fun t G1 v H1 q1 r1 g1 s1 => k _ G1 v H1 q1 r1.unP g1 s1⟩
/-- p + t -/
def addP : R2T
  | .ptup xs, .tup ys, G, Φ => xs ≠ [] ∧ xs.length + ys.length ≤ sizeLine ∧ Φ (.ptup (xs ++ ys)) G
  | _, _, _, _ => False
def rCatP (K : Fr0) : R2 := fun x y H Q => ∃ a b xs ys, x = .ref a ∧ y = .ref b ∧ SqT K H a xs ∧ SqT K H b ys ∧ xs ≠ [] ∧ xs.length + ys.length ≤ sizeLine ∧
  (ys = [] → Q (.ref a) H) ∧ (ys ≠ [] → ∀ p ob, H p = none → ob.dict = none → Q (.ref p) (L2.upd H p (.frz ob (.tup (xs ++ ys)))))
theorem op_catP : OpR X (binaryOp .Add) (rCatP X.K) := by
  intro pins s σ H x y v u Q I rx ry h
  obtain ⟨a, b, xs, ys, rfl, rfl, ha, hb, hx, hz, q1, q2⟩ := h
  cases rx
  cases ry
  obtain ⟨its, r1, p1, _⟩ := I.tuple ha
  obtain ⟨its2, r2, p2, _⟩ := I.tuple hb
  refine HT.cat_tup p1 p2 (fun z => hx (r1.nil_iff.mp z)) (fun z => ⟨.ref a, H, I, rfl, q1 (r2.nil_iff.mp z)⟩) (fun z => ?_) (by rw [← r1.length, ← r2.length]; exact hz)
  exact ⟨.ref s.heap.objs.size, _, I.laid (t' := s.toks) (o := .frz (tupObj (its ++ its2)) (.tup (xs ++ ys))) (fun b ob q => Heap.get?_push_of_some _ q) (Nat.le_refl _) (frz_new (by rw [List.length_append]; exact hz) (r1.append r2) (Heap.get?_push_size _ rfl)), rfl,
    q2 (fun w => z (r2.nil_iff.mpr w)) _ _ (I.hok.fresh (Nat.le_refl _)) rfl⟩
theorem o_addP : OpR X (binaryOp .Add) (low2 X.K en addP) := by
  refine OpR.weak op_catP fun x y H Q ⟨t, u, G, Φ, rt, ru, g, q, k⟩ => ?_
  cases rt with
  | ptup h hd r =>
    cases ru with
    | tup h2 r2 =>
      obtain ⟨h0, hl, q⟩ := q
      refine ⟨_, _, _, _, rfl, rfl, .inl (.inr ⟨_, h⟩), h2, fun z => h0 ?_, by rw [r.length, r2.length]; exact hl, fun z => ?_, fun z p ob hp hd2 => ?_⟩
      · have := r.length; rw [z] at this; exact List.length_eq_zero_iff.mp this.symm
      · have e : ‹List T› = [] := by have := r2.length; rw [z] at this; exact List.length_eq_zero_iff.mp this.symm
        subst e
        rw [List.append_nil] at q
        exact k _ _ _ _ q (.ptup h hd r) g (Step.refl H G)
      · obtain ⟨r3, g3, s3⟩ := ptup_laid g hp hd2 (r.app r2)
        exact k _ _ _ _ q r3 g3 s3
    | _ => exact q.elim
  | _ => exact q.elim
/-- p.index(x), x a text that is there -/
def lPIx (la lb : LE) : LE := fun S G Φ => la S G fun t G1 => match t with
  | .ptup ts => lb S G1 fun u G2 => tixT (.tup ts) [u] G2 Φ
  | _ => False
theorem e_pindex (ho : E en X o la) (he : E en X e lb) (hs : starEach [e] X.env = [(false, eval e X.env)] := by rfl) (hbase : attributeBase o "index" X.env (eval o X.env) = eval o X.env := by rfl) (hline : (apos.endLine == cpos.line) = true := by rfl) :
    E en X (.Call (.Attribute o "index" apos) [e] [] cpos) (lPIx la lb) := by
  refine ⟨fun pins s σ H Q I ⟨S, G, Φ, sr, g, q, k⟩ => ?_⟩
  refine PySem.Call_method1 hbase hs hline (thn (PE.run ho pins s σ H (fun v H' => ∃ t G', (match t with
    | .ptup ts => lb S G' fun u G2 => tixT (.tup ts) [u] G2 Φ
    | _ => False) ∧ Rel X.K H' v t ∧ HRel X.K en H' G' ∧ Step H G H' G') I ⟨S, G, _, sr, g, q, fun t G' v H' a b c d => ⟨t, G', a, b, c, d⟩⟩) fun v s1 ⟨x, H1, I1, r1, t, G1, q1, rt, g1, s1'⟩ => ?_)
  cases rt with
  | @ptup p ob vs ts h hd r =>
    cases r1
    obtain ⟨ho1, hz, us, ru, ht⟩ := (show ObjOk X.prog X.w H1 s1.heap p (.frz ob (.tup vs)) from I1.hok p _ h)
    refine ⟨"tuple", _, PySem.F.plainAttrs_tuple, PySem.F.slot_tuple_index, PySem.F.type_tuple_index, ht.typeIs, fun a ea => ?_, Calls.callWith_builtin rfl (Calls.evalArgs_plain (Calls.spliced_cons ?_))⟩
    · cases ea; exact ⟨ob, ho1, hd⟩
    · have st0 := s1'.stay g
      refine thn (PE.run he pins s1 σ H1 (fun y H2 => ∃ u G2, tixT (.tup ts) [u] G2 Φ ∧ Rel X.K H2 y u ∧ HRel X.K en H2 G2 ∧ Step H1 G1 H2 G2) I1 ⟨S, G1, _, sr.stay st0, g1, q1, fun t G' v H' a b c d => ⟨t, G', a, b, c, d⟩⟩) fun u s2 ⟨y, H2, I2, r2, w, G2, q2, rw', g2, s2'⟩ => Calls.spliced_nil ?_
      have st := s2'.stay g1
      refine m_tindex (en := en) pins s2 σ H2 (.ref p) [y] _ [u] Q I2 rfl (.cons r2 .nil) ⟨.tup ts, [w], G2, Φ, .tup (.inl (.inr ⟨_, st.2 _ _ _ h⟩)) (r.stay st), .cons rw' .nil, g2, q2, fun t' G' v' H' a b c d => k t' G' v' H' a b c ((s1'.trans s2').trans d)⟩
  | _ => exact q1.elim
end
end Dv
namespace Dv
open PySem PySem.Spec PyProof.Rows L2
/-! ### defs with one keyword-only parameter -/
section
variable {P : Program} {w : World} {K : Fr0} {mg : Str → Option Value} {base : Heap} {x qual kw : Str} {st : Stmt} {N ps : List Str} {k j n : Nat} {sp : Sp2} {dt : T} {C : Addr}
/-- the def st, its keyword-only parameter kw with the default that stands for dt -/
structure DfK (K : Fr0) (mg : Str → Option Value) (x : Str) (st : Stmt) (ps : List Str) (n : Nat) (kw : Str) (dt : T) : Prop where
  ex : ∃ (f : Addr) (fd : FuncData) (dv : V), FunD K x x (defArgs st) (defBody st) (defScope st) [] [(kw, dv)] f fd ∧ mg x = some (.ref f) ∧ (∀ H, Rel K H dv dt) ∧
    (∃ g gV, KBn K fd ps n [kw] g gV ∧ GoodT K gV (fun ts us => ts ++ us)) ∧ ∃ ds, Vals [dv] ds ∧ Binds K fd ps ds
structure KnK (P : Program) (w : World) (K : Fr0) (mg : Str → Option Value) (base : Heap) (k : Nat) (x : Str) (n : Nat) (kw : Str) (sp : Sp2) : Prop where
  ex : ∃ (f : Addr) (fd : FuncData) (ps : List Str) (g : List Value → List Value → List Value) (gV : List V → List V → List V), FnOk P w K mg base (L2.CX P w) k f fd ps (lowSp K sp) ∧ mg x = some (.ref f) ∧ PySem.W.keepIn K (.ref f) = true ∧ KBn K fd ps n [kw] g gV ∧ GoodT K gV (fun ts us => ts ++ us)
theorem knK_of (D : DfK K mg x st ps n kw dt) (S : FnScope N ps (defScope st)) (len : ∀ ts G Φ ΦE, sp ts G Φ ΦE → ts.length = ps.length) (hbody : ∀ f, BodyOk P w K mg base N x (defScope st) f k (defBody st) sp) :
    KnK P w K mg base (k + 1) x n kw sp ∧ Kn P w K mg base (k + 1) x sp [dt] := by
  obtain ⟨f, fd, dv, F, hm, hdt, ⟨g, gV, hb, hg⟩, ds, hds, hb2⟩ := D.ex
  have ok := fn_TD (P := P) (w := w) (mg := mg) (base := base) F S len (hbody f)
  exact ⟨⟨f, fd, ps, g, gV, ok, hm, F.kp, hb, hg⟩, ⟨f, fd, ps, [dv], ds, ok, hm, F.kp, hb2, hds, fun H => .cons (hdt H) .nil⟩⟩
/-- the same of an __init__ -/
structure DfIK (K : Fr0) (mg : Str → Option Value) (x : Str) (C : Addr) (qual : Str) (st : Stmt) (ps : List Str) (n : Nat) (kw : Str) (dt : T) : Prop where
  ex : ∃ (f : Addr) (fd : FuncData) (dv : V), FunD K "__init__" qual (defArgs st) (defBody st) (defScope st) [] [(kw, dv)] f fd ∧ Mk K C f ∧ mg x = some (.ref C) ∧ (∀ H, Rel K H dv dt) ∧
    (∃ g gV, KBn K fd ps (n + 1) [kw] g gV ∧ GoodT K gV (fun ts us => ts ++ us)) ∧ ∃ ds, Vals [dv] ds ∧ Binds K fd ps ds
structure KnIK (P : Program) (w : World) (K : Fr0) (mg : Str → Option Value) (base : Heap) (k : Nat) (x : Str) (C : Addr) (n : Nat) (kw : Str) (sp : Sp2) : Prop where
  ex : ∃ (f : Addr) (fd : FuncData) (ps : List Str) (g : List Value → List Value → List Value) (gV : List V → List V → List V), FnOk P w K mg base (L2.CX P w) k f fd ps (lowSp K sp) ∧ Mk K C f ∧ mg x = some (.ref C) ∧ KBn K fd ps (n + 1) [kw] g gV ∧ GoodT K gV (fun ts us => ts ++ us)
theorem knIK_of (D : DfIK K mg x C qual st ps n kw dt) (S : FnScope N ps (defScope st)) (len : ∀ ts G Φ ΦE, sp ts G Φ ΦE → ts.length = ps.length) (hbody : ∀ f, BodyOk P w K mg base N qual (defScope st) f k (defBody st) sp) :
    KnIK P w K mg base (k + 1) x C n kw sp ∧ KnI P w K mg base (k + 1) x C sp [dt] := by
  obtain ⟨f, fd, dv, F, M, hm, hdt, ⟨g, gV, hb, hg⟩, ds, hds, hb2⟩ := D.ex
  have ok := fn_TD (P := P) (w := w) (mg := mg) (base := base) F S len (hbody f)
  exact ⟨⟨f, fd, ps, g, gV, ok, M, hm, hb, hg⟩, ⟨f, fd, ps, [dv], ds, ok, M, hm, hb2, hds, fun H => .cons (hdt H) .nil⟩⟩
end
section
variable {X : Cx} {e o : Expr} {es : List Expr} {l lk : LA} {pos p : Pos} {k n : Nat} {x kw : Str} {sp : Sp2} {C : Addr} {kws : List Keyword}
theorem e_knK (F : KnK X.prog X.w X.K X.mg X.base k x n kw sp) (hr : Room k X.A) (ha : Ea en X (e :: es) l) (hkw : Ek en X kws lk) (hg : Gl X x := by rfl) (hall : (backToKw pos (keywordEach kws X.env)).all (·.1.isSome) = true := by rfl) (hks : (backToKw pos (keywordEach kws X.env)).filterMap (·.1) = [kw] := by rfl)
    (hdb : (x == ("__debug__" : Str)) = false := by decide) (he : starEach (e :: es) X.env = (false, eval e X.env) :: starEach es X.env := by rfl)
    (hpl : ((backTo pos (starEach (e :: es) X.env)).any (·.1) || (backToKw pos (keywordEach kws X.env)).any (·.1.isNone)) = false := by rfl) :
    E en X (.Call (.Name x p) (e :: es) kws pos) (lCallN n 1 sp (fun ts us => ts ++ us) noX l lk) := by
  obtain ⟨f, fd, ps, g, gV, ok, hm, hk, hb, hg'⟩ := F.ex
  exact e_callN ok hr hm hk hb hg' passN ha hkw hg hall hks hdb he hpl
theorem e_kiK (F : KnIK X.prog X.w X.K X.mg X.base k x C n kw sp) (hr : Room (k + 1) X.A) (ha : Ea en X (e :: es) l) (hkw : Ek en X kws lk) (hg : Gl X x := by rfl) (hall : (backToKw pos (keywordEach kws X.env)).all (·.1.isSome) = true := by rfl) (hks : (backToKw pos (keywordEach kws X.env)).filterMap (·.1) = [kw] := by rfl)
    (hdb : (x == ("__debug__" : Str)) = false := by decide) (he : starEach (e :: es) X.env = (false, eval e X.env) :: starEach es X.env := by rfl)
    (hpl : ((backTo pos (starEach (e :: es) X.env)).any (·.1) || (backToKw pos (keywordEach kws X.env)).any (·.1.isNone)) = false := by rfl) :
    E en X (.Call (.Name x p) (e :: es) kws pos) (lMakeK C n 1 sp (fun ts us => ts ++ us) noX l lk) := by
  obtain ⟨f, fd, ps, g, gV, ok, M, hm, hb, hg'⟩ := F.ex
  exact e_makeK M ok hr hm hb hg' passN ha hkw hg hall hks hdb he hpl
end
end Dv
namespace Dv
open PySem PySem.Spec PyProof.Rows L2
/-! ### a def with one keyword-only parameter whose default is (), as it stands behind the top -/
section
variable {P : Program} {w : World} {K : Fr0} {mg : Str → Option Value} {x x2 qual kw : Str} {st : Stmt} {ps : List Str} {n : Nat} {f D TT C : Addr} {oc : Value} {od an : Option Addr} {osl : Array (Option Value)} {doc pm cdv ct : Value} {dd : Option Addr} {nn : Nat} {tsl : Array (Option Value)}
theorem funD_mk (l : K.lookup f = some ⟨oc, od, .func (PySem.W.fnOf x qual (defArgs st) (defBody st) (defScope st) .none (.ref D) doc pm an cdv ct), osl⟩)
    (c : PySem.W.codeIn K cdv qual = true) (k : PySem.W.keepIn K (.ref f) = true) (hd : PySem.W.nsIn K D kw = some (some (.ref TT))) :
    FunD K x qual (defArgs st) (defBody st) (defScope st) [] [(kw, .ref TT)] f (PySem.W.fnOf x qual (defArgs st) (defBody st) (defScope st) .none (.ref D) doc pm an cdv ct) :=
  ⟨⟨oc, od, .none, .ref D, doc, pm, an, cdv, ct, osl, rfl, l, c, .inl ⟨rfl, rfl⟩, .inr ⟨D, rfl, fun q hq => by
    rw [List.mem_singleton.mp hq]
    exact ⟨.ref TT, hd, rfl⟩⟩⟩, k⟩
theorem tt_rel (lT : K.lookup TT = some ⟨.type "tuple", dd, .seq #[] nn, tsl⟩) : ∀ H, Rel K H (.ref TT) (.tup []) := fun H =>
  .tup (xs := []) (.inr ⟨_, _, _, lT, rfl, rfl, (by rw [sizeLine_eq]; exact Nat.zero_le _), .nil⟩) .nil
theorem kb_mk {fd : FuncData} (F : FunD K x qual (defArgs st) (defBody st) (defScope st) [] [(kw, .ref TT)] f fd)
    (h1 : ∀ (D : Addr) (doc pm : Value) (an : Option Addr) (cdv ct : Value) (us ws : List Value), us.length = n → ws.length = 1 →
      bindArgs (PySem.W.fnOf x qual (defArgs st) (defBody st) (defScope st) .none (.ref D) doc pm an cdv ct) ⟨us, [kw].zip ws⟩ = pure (ps.zip (us ++ ws))) :
    ∃ g gV, KBn K fd ps n [kw] g gV ∧ GoodT K gV (fun ts us => ts ++ us) := by
  obtain ⟨mv, h⟩ := F.kbinds0 n [kw] [] (fun us _ ws => us ++ ws) (by simp) (by simp) (fun r1 _ r3 => r1.append r3) (fun D doc pm an cdv ct us mv ws e1 _ e3 => h1 D doc pm an cdv ct us ws e1 e3)
  exact ⟨_, _, h, fun H vs ts ws us a b => a.app b⟩
theorem b0_mk {fd : FuncData} (F : FunD K x qual (defArgs st) (defBody st) (defScope st) [] [(kw, .ref TT)] f fd) (hn : n + 1 = ps.length)
    (h2 : ∀ (D : Addr) (doc pm : Value) (an : Option Addr) (cdv ct : Value) (us : List Value) (v : Value), us.length = n →
      KwChain D [(kw, v)] (bindArgs (PySem.W.fnOf x qual (defArgs st) (defBody st) (defScope st) .none (.ref D) doc pm an cdv ct) ⟨us, []⟩) (ps.zip (us ++ [v]))) :
    ∃ ds, Vals [V.ref TT] ds ∧ Binds K fd ps ds :=
  F.binds0 n (by simp) (by simpa using hn) fun D doc pm an cdv ct us ks e1 e2 => by
    match ks, e2 with
    | [v], _ => exact h2 D doc pm an cdv ct us v e1
end
end Dv
namespace K16
open PySem PySem.Spec PyProof.Rows L2 Dv
abbrev pw : Program := PySem.Challenge.pw_everymiss_k16_whole_any_start
def top (i : Nat) : Stmt := pw.main.body.getD i (.Pass ⟨0, 0, 0, 0⟩)
/-- what stands behind the top -/
structure Env (K : Fr0) (mg : Str → Option Value) (CCache : Addr) : Prop where
  b_len : mg "len" = none
  b_abs : mg "abs" = none
  b_int : mg "int" = none
  b_list : mg "list" = none
  b_tuple : mg "tuple" = none
  b_sorted : mg "sorted" = none
  b_dict : mg "dict" = none
  b_isinstance : mg "isinstance" = none
  b_range : mg "range" = none
  b_enumerate : mg "enumerate" = none
  b_zip : mg "zip" = none
  b_str : mg "str" = none
  b_bool : mg "bool" = none
  g_LETTERS : GStr mg "LETTERS" "abcdefghijklmnopqrstuvwxyz"
  g_MOST_KEPT : GInt mg "MOST_KEPT" 12
  g_MOST_SETS : GInt mg "MOST_SETS" 8
  g_MOST_WAYS : GInt mg "MOST_WAYS" 8
  d_is_integer : Df K mg "is_integer" (top 8) ["value"]
  d_is_name : Df K mg "is_name" (top 9) ["value"]
  d_is_set : Df K mg "is_set" (top 14) ["value"]
  d_is_layout : Df K mg "is_layout" (top 15) ["value"]
  d_need_layout : Df K mg "need_layout" (top 16) ["value"]
  d_need_block : Df K mg "need_block" (top 17) ["layout", "value"]
  d_need_ways : Df K mg "need_ways" (top 18) ["value"]
  d_distances_of : Df K mg "distances_of" (top 20) ["blocks", "layout"]
  d_hits_of : DfK K mg "hits_of" (top 21) ["blocks", "layout", "ways", "start"] 3 "start" (.tup [])
  d__law_begin : Df K mg "_law_begin" (top 23) ["_law_script"]
  d__law_take : Df K mg "_law_take" (top 24) ["_law_draw", "_law_size"]
  d__law_pick : Df K mg "_law_pick" (top 25) ["_law_draw", "_law_some"]
  d__law_shuffled : Df K mg "_law_shuffled" (top 26) ["_law_draw", "_law_some"]
  d__law_hits : Df K mg "_law_hits" (top 27) ["_law_homes", "_law_seen", "_law_width", "_law_kept"]
  d__law_blocks : Df K mg "_law_blocks" (top 28) ["_law_draw", "_law_many"]
  d__law_best_start : Df K mg "_law_best_start" (top 29) ["_law_homes", "_law_seen", "_law_width"]
  d_law : Df K mg "law" (top 30) ["_law_script"]
  c_Cache : Cls K CCache
  n_Cache_place_of : NoAttr K CCache "place_of"
  n_Cache_room : NoAttr K CCache "room"
  n_Cache_rows : NoAttr K CCache "rows"
  d_Cache_init : DfIK K mg "Cache" CCache "Cache.__init__" (inClass (top 19) 0) ["self", "layout", "ways", "start"] 2 "start" (.tup [])
  d_Cache_touch : DfM K CCache "touch" "Cache.touch" (inClass (top 19) 4) ["self", "block"]
variable {P : Program} {w : World} {K : Fr0} {mg : Str → Option Value} {base : Heap} {CP : Addr}
theorem sc__law_take : FnScope ["_law_draw", "_law_size", "_law_found", "_law_turn", "_law_item", "_law_mixed"] ["_law_draw", "_law_size"] (defScope (top 24)) := ⟨rfl, rfl, rfl, by decide +kernel, rfl, by decide +kernel, by decide +kernel⟩
theorem kn0__law_take (V : Env K mg CP) : Kn P w K mg base 1 "_law_take" spTake0 [] := by
  refine kn_of V.d__law_take sc__law_take (by rintro ts G Φ ΦE ⟨d, sz, n, G0, lg, it, l, t, ls, is, rfl, _⟩; rfl) fun f cdv A outer s H E ts G Φ ΦE hr ho hsp => ⟨_, (es_cons (s_if (et_w (ew_and (et_cmp (o_eq hr.u64) (e_ix hr.u1 (e_var 0) e_str (fun _ _ => rfl)) e_int) (ew_and1 (et_cmp (o_ne hr.u64) (e_ix hr.u1 (e_var 0) e_str (fun _ _ => rfl)) (e_lst ea_nil))))) (es_one (s_store hr.u1 (e_var 0) e_str (e_pop (e_ix hr.u1 (e_var 0) e_str (fun _ _ => rfl)) (ea_cons e_int ea_nil)))) es_nil) (es_cons (s_if (et_cmp o_gt (e_ix hr.u1 (e_var 0) e_str (fun _ _ => rfl)) e_int) (es_cons (s_set (j := 2) sc__law_take.nd rfl (by first | exact .inl rfl | exact .inr rfl) (e_bin o_mod (b_intE V.b_int (ea_cons (e_ix hr.u1 (e_var 0) e_str (fun _ _ => rfl)) ea_nil)) (e_var 1))) (es_cons (s_store hr.u1 (e_var 0) e_str (e_bin o_fdiv (e_ix hr.u1 (e_var 0) e_str (fun _ _ => rfl)) (e_var 1))) (es_one (s_ret (e_var 2))))) es_nil) (es_cons (s_set (j := 3) sc__law_take.nd rfl (by first | exact .inl rfl | exact .inr rfl) (e_bin o_add (e_ix hr.u1 (e_var 0) e_str (fun _ _ => rfl)) e_int)) (es_cons (s_store hr.u1 (e_var 0) e_str (e_var 3)) (es_cons (s_set (j := 4) sc__law_take.nd rfl (by first | exact .inl rfl | exact .inr rfl) e_int) (es_cons (s_if (et_cmp (o_ne hr.u64) (e_ix hr.u1 (e_var 0) e_str (fun _ _ => rfl)) (e_lst ea_nil)) (es_one (s_set (j := 4) sc__law_take.nd rfl (by first | exact .inl rfl | exact .inr rfl) (e_ix hr.u1 (e_ix hr.u1 (e_var 0) e_str (fun _ _ => rfl)) (e_bin o_mod (b_intE V.b_int (ea_cons (e_var 3) ea_nil)) (b_lenE V.b_len (ea_cons (e_ix hr.u1 (e_var 0) e_str (fun _ _ => rfl)) ea_nil))) (fun _ _ => rfl)))) es_nil) (es_cons (s_set (j := 5) sc__law_take.nd rfl (by first | exact .inl rfl | exact .inr rfl) (e_bin o_mod (b_intE V.b_int (ea_cons (e_bin o_pow (e_bin o_add (e_bin o_add (e_bin o_mod (b_intE V.b_int (ea_cons (e_var 4) ea_nil)) e_int) (e_bin o_mul e_int (e_var 3))) e_int) e_int) ea_nil)) e_int)) (es_one (s_ret (e_bin o_mod (e_bin o_fdiv (e_bin o_mod (b_intE V.b_int (ea_cons (e_bin o_pow (e_bin o_add (e_var 5) (e_bin o_mul e_int (e_var 3))) e_int) ea_nil)) e_int) e_int) (e_var 1))))))))))), ?_⟩
  obtain ⟨d, sz, n, G0, lg, it, l, t, ls, is, rfl, rfl, o, hsz, hn, q⟩ := hsp
  show lSeq _ _ _ [some (.ref d), some (.int sz), none, none, none, none] _
  have nd := o.n1
  have hmd : mostDraws = 10 ^ 9 := rfl
  have hints : ∀ xs : List Int, PlaL (xs.map T.int) := PlaL.ints
  refine sq (M := fun S' G' => S' = [some (.ref d), some (.int sz), none, none, none, none] ∧ ∃ l ls, Opn d lg it l t ls is n ∧ G' = opn G0 d lg it l t ls is) ?rest ?first
  case first =>
    intro R hR
    have fin : ∀ G', Sub (opn G0 d lg it l t ls is) G' → R [some (.ref d), some (.int sz), none, none, none, none] G' := fun G' sb => hR _ _ _ sb ⟨rfl, l, ls, o, rfl⟩
    simp only [lIfS, lAnd, lOr, lNot, lB, lOp, lVar, lC, lCons, lNil, lTup, lLst, lUn, lCB, lAsg, gN, lSet, lRet, lRetN, lDrop, lNext, lIf, lBM, lFor, lLc, lDc, lIt, lRg1, lRg2, lEnum, lZip, lMeth, lCall, lProp, lFld, lFldS, lGlob, lIsi2, lChain, lSl, lSome, lNo, lAndV, lOrV, lNotV, lPar, lPar3, lMake, lDisp, lPCons, lPNil, lYes, lPTup, lUnP, lPIx, unP, gT, gCons2, gNil2, slotsOf_nil, slotsOf_cons, wipe2, sl, List.set, List.append_nil]
    rw [ixT_dic (opn_d o) rfl look_left]
    simp only [Dv.eqT, scalT, if_true]
    by_cases hl0 : l = 0
    · subst hl0
      simp only [decide_true, if_true]
      rw [ixT_dic (opn_d o) rfl look_large]
      refine ⟨Nat.zero_le _, fun p hp => ?_⟩
      have hpd : p ≠ d := fun z => by rw [z, opn_d o] at hp; cases hp
      have hpl : p ≠ lg := fun z => by rw [z, opn_lg o] at hp; cases hp
      have gd : gup (opn G0 d lg it 0 t ls is) p (.lst []) d = some (.dic (dkv lg it 0 t)) := by rw [gup_ne hpd.symm]; exact opn_d o
      have gl : gup (opn G0 d lg it 0 t ls is) p (.lst []) lg = some (.lst (ls.map T.int)) := by rw [gup_ne hpl.symm]; exact opn_lg o
      refine neT_lst gl gup_same (hints ls) PlaL.nil ?_
      cases ls with
      | nil => exact fin _ (Sub.gup hp)
      | cons x ls =>
        simp only [List.map_cons, reduceCtorEq, decide_false, Bool.not_false, if_true]
        refine ixT_dicI gd look_large ⟨tyT_lst gl, popT_atI (n := 0) gl rfl (by decide) rfl ?_⟩
        have e1 : gup (gup (opn G0 d lg it 0 t (x :: ls) is) p (.lst [])) lg (.lst (ls.map T.int)) d = some (.dic (dkv lg it 0 t)) := by rw [gup_ne nd]; exact gd
        refine setT_dicI e1 dkv_len ?_
        have o2 : Opn d lg it x t ls is n := ⟨o.n1, o.n2, o.n3, fun y hy => o.lpos y (by simp [hy]), o.ipos, o.ilen, by have := o.llen; simp at this; omega, o.lpos x (by simp), o.t0, o.tn⟩
        refine hR _ _ (opn G0 d lg it x t ls is) ?_ ⟨rfl, x, ls, o2, rfl⟩
        have sb := ((Sub.gup (o := .lst []) hp).gup2 (a := lg) (o := .lst (ls.map T.int))).gup2 (a := d) (o := .dic (dkv lg it x t))
        rw [opn_set_lg o, opn_set_d (ls := ls) ⟨o.n1, o.n2, o.n3, fun y hy => o.lpos y (by simp [hy]), o.ipos, o.ilen, by have := o.llen; simp at this; omega, o.l0, o.t0, o.tn⟩] at sb
        rw [put_left]
        exact sb
    · simp only [T.int.injEq, hl0, decide_false, Bool.false_eq_true, if_false]
      exact fin _ (Sub.refl _)
  case rest =>
    rintro S' G' ⟨rfl, l, ls, o, rfl⟩
    have q2 : ∀ G' r l' t', 0 ≤ r → r < sz → Opn d lg it l' t' ls is (n + 1) → Sub (opn G0 d lg it l' t' ls is) G' → rtF Φ (.int r) G' := fun G' r l' t' h1 h2 o' sb => ⟨_, sb, q r l' t' ls h1 h2 o'⟩
    have on : ∀ {l' t' : Int}, 0 ≤ l' → 0 ≤ t' → t' ≤ t + 1 → Opn d lg it l' t' ls is (n + 1) := fun h1 h2 h3 => ⟨o.n1, o.n2, o.n3, o.lpos, o.ipos, o.ilen, o.llen, h1, h2, by have := o.tn; omega⟩
    have md : ∀ i : Int, 0 ≤ i % sz ∧ i % sz < sz := fun i => ⟨Int.emod_nonneg _ (by omega), Int.emod_lt_of_pos _ hsz.1⟩
    refine sq1 (S1 := [some (.ref d), some (.int sz), none, none, none, none]) (G1 := opn G0 d lg it l t ls is) (fun R hR => ?_) ?_
    · simp only [lIfS, lAnd, lOr, lNot, lB, lOp, lVar, lC, lCons, lNil, lTup, lLst, lUn, lCB, lAsg, gN, lSet, lRet, lRetN, lDrop, lNext, lIf, lBM, lFor, lLc, lDc, lIt, lRg1, lRg2, lEnum, lZip, lMeth, lCall, lProp, lFld, lFldS, lGlob, lIsi2, lChain, lSl, lSome, lNo, lAndV, lOrV, lNotV, lPar, lPar3, lMake, lDisp, lPCons, lPNil, lYes, lPTup, lUnP, lPIx, unP, gT, gCons2, gNil2, slotsOf_nil, slotsOf_cons, wipe2, sl, List.set, List.append_nil]
      rw [ixT_dic (opn_d o) rfl look_left]
      simp only [ordT]
      by_cases hl0 : 0 < l
      · simp only [hl0, decide_true, if_true]
        simp only [lSeq, lIfS, lAnd, lOr, lNot, lB, lOp, lVar, lC, lCons, lNil, lTup, lLst, lUn, lCB, lAsg, gN, lSet, lRet, lRetN, lDrop, lNext, lIf, lBM, lFor, lLc, lDc, lIt, lRg1, lRg2, lEnum, lZip, lMeth, lCall, lProp, lFld, lFldS, lGlob, lIsi2, lChain, lSl, lSome, lNo, lAndV, lOrV, lNotV, lPar, lPar3, lMake, lDisp, lPCons, lPNil, lYes, lPTup, lUnP, lPIx, unP, gT, gCons2, gNil2, slotsOf_nil, slotsOf_cons, wipe2, sl, List.set, List.append_nil]
        rw [ixT_dic (opn_d o) rfl look_left]
        simp only [intCT, intT]
        refine ⟨hsz.1, _, Sub.refl _, ?_⟩
        rw [ixT_dic (opn_d o) rfl look_left]
        simp only [CDiv]
        refine ⟨⟨hsz.1, by omega⟩, ?_⟩
        rw [setT_dic (opn_d o) rfl]
        refine ⟨dkv_len, ?_⟩
        rw [put_left, opn_set_d o]
        refine ⟨_, Sub.refl _, ?_⟩
        exact q2 _ _ _ _ (md l).1 (md l).2 (on (Int.ediv_nonneg o.l0 (by omega)) o.t0 (by omega)) (Sub.refl _)
      · simp only [hl0, decide_false, Bool.false_eq_true, if_false]
        exact hR _ (Sub.refl _)
    refine sq1 (S1 := [some (.ref d), some (.int sz), none, some (.int (t + 1)), none, none]) (G1 := opn G0 d lg it l t ls is) (fun R hR => ?_) ?_
    · simp only [lIfS, lAnd, lOr, lNot, lB, lOp, lVar, lC, lCons, lNil, lTup, lLst, lUn, lCB, lAsg, gN, lSet, lRet, lRetN, lDrop, lNext, lIf, lBM, lFor, lLc, lDc, lIt, lRg1, lRg2, lEnum, lZip, lMeth, lCall, lProp, lFld, lFldS, lGlob, lIsi2, lChain, lSl, lSome, lNo, lAndV, lOrV, lNotV, lPar, lPar3, lMake, lDisp, lPCons, lPNil, lYes, lPTup, lUnP, lPIx, unP, gT, gCons2, gNil2, slotsOf_nil, slotsOf_cons, wipe2, sl, List.set, List.append_nil]
      exact ixT_dicI (opn_d o) look_turn (addT_int (hR _ (Sub.refl _)))
    have o1 : Opn d lg it l (t + 1) ls is (n + 1) := on o.l0 (by have := o.t0; omega) (Int.le_refl _)
    refine sq1 (S1 := [some (.ref d), some (.int sz), none, some (.int (t + 1)), none, none]) (G1 := opn G0 d lg it l (t + 1) ls is) (fun R hR => ?_) ?_
    · simp only [lSet, lIfS, lAnd, lOr, lNot, lB, lOp, lVar, lC, lCons, lNil, lTup, lLst, lUn, lCB, lAsg, gN, lSet, lRet, lRetN, lDrop, lNext, lIf, lBM, lFor, lLc, lDc, lIt, lRg1, lRg2, lEnum, lZip, lMeth, lCall, lProp, lFld, lFldS, lGlob, lIsi2, lChain, lSl, lSome, lNo, lAndV, lOrV, lNotV, lPar, lPar3, lMake, lDisp, lPCons, lPNil, lYes, lPTup, lUnP, lPIx, unP, gT, gCons2, gNil2, slotsOf_nil, slotsOf_cons, wipe2, sl, List.set, List.append_nil]
      refine setT_dicI (opn_d o) dkv_len ?_
      rw [put_turn, opn_set_d o]
      exact hR _ (Sub.refl _)
    refine sq1 (S1 := [some (.ref d), some (.int sz), none, some (.int (t + 1)), some (.int 0), none]) (G1 := opn G0 d lg it l (t + 1) ls is) (fun R hR => ?_) ?_
    · simp only [lIfS, lAnd, lOr, lNot, lB, lOp, lVar, lC, lCons, lNil, lTup, lLst, lUn, lCB, lAsg, gN, lSet, lRet, lRetN, lDrop, lNext, lIf, lBM, lFor, lLc, lDc, lIt, lRg1, lRg2, lEnum, lZip, lMeth, lCall, lProp, lFld, lFldS, lGlob, lIsi2, lChain, lSl, lSome, lNo, lAndV, lOrV, lNotV, lPar, lPar3, lMake, lDisp, lPCons, lPNil, lYes, lPTup, lUnP, lPIx, unP, gT, gCons2, gNil2, slotsOf_nil, slotsOf_cons, wipe2, sl, List.set, List.append_nil]
      exact hR _ (Sub.refl _)
    refine sq (M := fun S' G' => ∃ v : Int, S' = [some (.ref d), some (.int sz), none, some (.int (t + 1)), some (.int v), none] ∧ G' = opn G0 d lg it l (t + 1) ls is) ?_ (fun R hR => ?_)
    · rintro S' G' ⟨v, rfl, rfl⟩
      have h0 := o.t0
      have h1 := o.tn
      have hm1 : 0 ≤ v % 2147483629 ∧ v % 2147483629 < 2147483629 := ⟨Int.emod_nonneg _ (by omega), Int.emod_lt_of_pos _ (by omega)⟩
      refine sq (M := fun S' G' => ∃ m : Int, 0 ≤ m ∧ m < 2147483647 ∧ S' = [some (.ref d), some (.int sz), none, some (.int (t + 1)), some (.int v), some (.int m)] ∧ G' = opn G0 d lg it l (t + 1) ls is) ?_ (fun R hR => ?_)
      · rintro S' G' ⟨m, hm, hm2, rfl, rfl⟩
        simp only [lIfS, lAnd, lOr, lNot, lB, lOp, lVar, lC, lCons, lNil, lTup, lLst, lUn, lCB, lAsg, gN, lSet, lRet, lRetN, lDrop, lNext, lIf, lBM, lFor, lLc, lDc, lIt, lRg1, lRg2, lEnum, lZip, lMeth, lCall, lProp, lFld, lFldS, lGlob, lIsi2, lChain, lSl, lSome, lNo, lAndV, lOrV, lNotV, lPar, lPar3, lMake, lDisp, lPCons, lPNil, lYes, lPTup, lUnP, lPIx, unP, gT, gCons2, gNil2, slotsOf_nil, slotsOf_cons, wipe2, sl, List.set, List.append_nil]
        simp only [mulT, addT, intT, intCT, CPow, CDiv, CMul]
        refine ⟨.inl ⟨by decide, by decide⟩, ⟨by decide, by decide, ?_⟩, by decide, ⟨by decide, by decide⟩, hsz.1, ?_⟩
        · rw [hmd] at hn; omega
        · exact q2 _ _ _ _ (md _).1 (md _).2 o1 (Sub.refl _)
      · simp only [lIfS, lAnd, lOr, lNot, lB, lOp, lVar, lC, lCons, lNil, lTup, lLst, lUn, lCB, lAsg, gN, lSet, lRet, lRetN, lDrop, lNext, lIf, lBM, lFor, lLc, lDc, lIt, lRg1, lRg2, lEnum, lZip, lMeth, lCall, lProp, lFld, lFldS, lGlob, lIsi2, lChain, lSl, lSome, lNo, lAndV, lOrV, lNotV, lPar, lPar3, lMake, lDisp, lPCons, lPNil, lYes, lPTup, lUnP, lPIx, unP, gT, gCons2, gNil2, slotsOf_nil, slotsOf_cons, wipe2, sl, List.set, List.append_nil]
        simp only [mulT, addT, intT, intCT, CPow, CDiv, CMul]
        refine ⟨by decide, .inl ⟨by decide, by decide⟩, ⟨by decide, by decide, ?_⟩, by decide, ?_⟩
        · rw [hmd] at hn; omega
        · exact hR _ _ _ (Sub.refl _) ⟨_, Int.emod_nonneg _ (by decide), Int.emod_lt_of_pos _ (by decide), rfl, rfl⟩
    · simp only [lIfS, lAnd, lOr, lNot, lB, lOp, lVar, lC, lCons, lNil, lTup, lLst, lUn, lCB, lAsg, gN, lSet, lRet, lRetN, lDrop, lNext, lIf, lBM, lFor, lLc, lDc, lIt, lRg1, lRg2, lEnum, lZip, lMeth, lCall, lProp, lFld, lFldS, lGlob, lIsi2, lChain, lSl, lSome, lNo, lAndV, lOrV, lNotV, lPar, lPar3, lMake, lDisp, lPCons, lPNil, lYes, lPTup, lUnP, lPIx, unP, gT, gCons2, gNil2, slotsOf_nil, slotsOf_cons, wipe2, sl, List.set, List.append_nil]
      refine ixT_dicI (opn_d o1) look_items ⟨Nat.zero_le _, fun p hp => ?_⟩
      have hpd : p ≠ d := fun z => by rw [z, opn_d o1] at hp; cases hp
      have hpi : p ≠ it := fun z => by rw [z, opn_it] at hp; cases hp
      have gd : gup (opn G0 d lg it l (t + 1) ls is) p (.lst []) d = some (.dic (dkv lg it l (t + 1))) := by rw [gup_ne hpd.symm]; exact opn_d o1
      have gi : gup (opn G0 d lg it l (t + 1) ls is) p (.lst []) it = some (.lst (is.map T.int)) := by rw [gup_ne hpi.symm]; exact opn_it
      refine neT_lst gi gup_same (hints is) PlaL.nil ?_
      cases is with
      | nil => exact hR _ _ _ (Sub.gup hp) ⟨0, rfl, rfl⟩
      | cons x is =>
        simp only [List.map_cons, reduceCtorEq, decide_false, Bool.not_false, if_true]
        refine ixT_dicI gd look_items ?_
        simp only [intCT]
        refine ixT_dicI gd look_items (lenT_lstI gi ⟨by simp, ?_⟩)
        have hl : (0 : Int) < ((List.map T.int (x :: is)).length : Int) := by simp
        generalize hj : (t + 1) % ((List.map T.int (x :: is)).length : Int) = j
        have hj0 : 0 ≤ j := by rw [← hj]; exact Int.emod_nonneg _ (by omega)
        have hj1 : j < ((List.map T.int (x :: is)).length : Int) := by rw [← hj]; exact Int.emod_lt_of_pos _ hl
        obtain ⟨m, rfl⟩ := Int.eq_ofNat_of_zero_le hj0
        have hm : m < (x :: is).length := by rw [List.length_map] at hj1; omega
        refine ixT_lstI (t := .int (x :: is)[m]) gi ?_ (hR _ _ _ (Sub.gup hp) ⟨_, rfl, rfl⟩)
        rw [hj, atT_nat (xs := List.map T.int (x :: is)) (n := m) (by simpa using hm), List.getElem?_map, List.getElem?_eq_getElem hm]
        rfl
theorem kn__law_take (V : Env K mg CP) : Kn P w K mg base 1 "_law_take" spTake [] := kn_take (kn0__law_take V)
theorem sc__law_begin : FnScope ["_law_script", "_law_items", "_law_item"] ["_law_script"] (defScope (top 23)) := ⟨rfl, rfl, rfl, by decide +kernel, rfl, by decide +kernel, by decide +kernel⟩
theorem kn__law_begin (V : Env K mg CP) : KnB P w K mg base 1 "_law_begin" spBegin := by
  refine knB_begin (knB_of V.d__law_begin sc__law_begin rfl fun f cdv A outer s H E G Φ ΦE a ns hr ho hn hS hsp => ⟨_, (es_cons (s_setLc (j := 1) [("_law_item", 2)] sc__law_begin.nd (i_scr (fun H G g => (hS H G g).sq) (e_var 0)) (fun _ _ _ _ _ => (g_name (j := 2) sc__law_begin.nd rfl (by first | exact .inl rfl | exact .inr rfl))) (fun _ _ _ _ _ => ts_nil) (fun _ _ _ _ _ => (b_absE V.b_abs (ea_cons (e_var 2) ea_nil)))) (es_one (s_ret (e_disp (p_cons e_str (e_lc [("_law_item", 2)] sc__law_begin.nd (i_val (e_var 1)) (fun _ _ _ _ _ => (g_name (j := 2) sc__law_begin.nd rfl (by first | exact .inl rfl | exact .inr rfl))) (fun _ _ _ _ _ => (ts_one (et_cmp o_ge (e_var 2) (e_bin o_pow e_int e_int)))) (fun _ _ _ _ _ => (e_var 2))) (p_cons e_str (e_var 1) (p_cons e_str e_int (p_cons e_str e_int p_nil)))))))), ?_⟩)
  obtain ⟨a', e, q⟩ := hsp
  show lSeq _ _ _ [some (.ref a), none, none] _
  refine sq (M := fun S' G' => ∃ p, G p = none ∧ S' = [some (.ref a), some (.ref p), none] ∧ G' = gup G p (.lst ((ns.map fun i => if i < 0 then -i else i).map T.int))) ?_ (fun R hR => ?_)
  · rintro S' G' ⟨p, hp, rfl, rfl⟩
    simp only [lIfS, lAnd, lOr, lNot, lB, lOp, lVar, lC, lCons, lNil, lTup, lLst, lUn, lCB, lAsg, gN, lSet, lRet, lRetN, lDrop, lNext, lIf, lBM, lFor, lLc, lDc, lIt, lRg1, lRg2, lEnum, lZip, lMeth, lCall, lProp, lFld, lFldS, lGlob, lIsi2, lChain, lSl, lSome, lNo, lAndV, lOrV, lNotV, lPar, lPar3, lMake, lDisp, lPCons, lPNil, lYes, lPTup, lUnP, lPIx, unP, gT, gCons2, gNil2, slotsOf_nil, slotsOf_cons, wipe2, sl, List.set, List.append_nil]
    refine itT_lst gup_same (lc_pure (fun t => match t with | .int i => decide (10 ^ 18 ≤ i) | _ => false) id gup_same (by rw [List.length_map, List.length_map, sizeLine_eq]; omega) (fun t ht => ?_) ?_)
    · obtain ⟨i, _, rfl⟩ := List.mem_map.mp ht
      refine ⟨_, rfl, fun Φ h => ?_, fun _ G' sb Φ h => h _ (Sub.refl _)⟩
      simp only [lIfS, lAnd, lOr, lNot, lB, lOp, lVar, lC, lCons, lNil, lTup, lLst, lUn, lCB, lAsg, gN, lSet, lRet, lRetN, lDrop, lNext, lIf, lBM, lFor, lLc, lDc, lIt, lRg1, lRg2, lEnum, lZip, lMeth, lCall, lProp, lFld, lFldS, lGlob, lIsi2, lChain, lSl, lSome, lNo, lAndV, lOrV, lNotV, lPar, lPar3, lMake, lDisp, lPCons, lPNil, lYes, lPTup, lUnP, lPIx, unP, gT, gCons2, gNil2, slotsOf_nil, slotsOf_cons, wipe2, sl, List.set, List.append_nil]
      exact ⟨⟨by decide, by decide, by decide⟩, h _ (Sub.refl _)⟩
    · intro p1 hp1
      have n3 : p1 ≠ p := fresh_ne gup_same hp1
      refine ⟨rfl, (by decide : (4 : Nat) ≤ 15), fun d hd => ?_⟩
      have n1 : d ≠ p1 := fresh_ne gup_same hd
      rw [gup_ne n1] at hd
      have n2 : d ≠ p := fresh_ne gup_same hd
      rw [gup_ne n2] at hd
      rw [gup_ne n3] at hp1
      have hpos : ∀ x ∈ ns.map fun i => if i < 0 then -i else i, 0 ≤ x := by
        intro x hx
        obtain ⟨i, _, rfl⟩ := List.mem_map.mp hx
        split <;> omega
      have e1 : (List.filter (fun t => match t with | .int i => decide (10 ^ 18 ≤ i) | _ => false) (List.map T.int (ns.map fun i => if i < 0 then -i else i))).map id = ((ns.map fun i => if i < 0 then -i else i).filter fun i => decide (10 ^ 18 ≤ i)).map T.int := by
        rw [List.map_id, List.filter_map]
        rfl
      rw [e1]
      have qq := q d p1 p ((ns.map fun i => if i < 0 then -i else i).filter fun i => decide (10 ^ 18 ≤ i)) _ hd hp1 hp ⟨n1, n2, n3, fun x hx => hpos x (List.mem_filter.mp hx).1, hpos, by simpa using hn, Nat.le_trans (List.length_filter_le _ _) (by simpa using hn), Int.le_refl _, Int.le_refl _, Int.le_refl _⟩
      rw [← opn_of n1 n2 n3] at qq
      exact rtF.of qq
  · simp only [lIfS, lAnd, lOr, lNot, lB, lOp, lVar, lC, lCons, lNil, lTup, lLst, lUn, lCB, lAsg, gN, lSet, lRet, lRetN, lDrop, lNext, lIf, lBM, lFor, lLc, lDc, lIt, lRg1, lRg2, lEnum, lZip, lMeth, lCall, lProp, lFld, lFldS, lGlob, lIsi2, lChain, lSl, lSome, lNo, lAndV, lOrV, lNotV, lPar, lPar3, lMake, lDisp, lPCons, lPNil, lYes, lPTup, lUnP, lPIx, unP, gT, gCons2, gNil2, slotsOf_nil, slotsOf_cons, wipe2, sl, List.set, List.append_nil]
    refine ⟨trivial, ?_⟩
    refine lc_pure (fun _ => true) (fun t => match t with | .int i => .int (if i < 0 then -i else i) | t => t) trivial (by rw [List.length_map, sizeLine_eq]; omega) (fun t ht => ?_) ?_
    · obtain ⟨i, _, rfl⟩ := List.mem_map.mp ht
      exact ⟨_, rfl, fun Φ h => h _ (Sub.refl _), fun _ G' sb Φ h => h _ (Sub.refl _)⟩
    · intro p hp
      refine hR _ _ _ (Sub.refl _) ⟨p, hp, rfl, ?_⟩
      congr 2
      rw [List.map_map, List.filter_eq_self.mpr (fun _ _ => rfl), List.map_map]
      rfl
theorem sc__law_pick : FnScope ["_law_draw", "_law_some"] ["_law_draw", "_law_some"] (defScope (top 25)) := ⟨rfl, rfl, rfl, by decide +kernel, rfl, by decide +kernel, by decide +kernel⟩
/-- a list that isn't empty, or a tuple of the module -/
theorem kn__law_pick (V : Env K mg CP) : Kn P w K mg base 2 "_law_pick" spPick [] := by
  refine kn_of V.d__law_pick sc__law_pick (by rintro ts G Φ ΦE ⟨d, a, n, xs, rfl, _⟩; rfl) fun f cdv A outer s H E ts G Φ ΦE hr ho hsp => ⟨_, (es_one (s_ret (e_ix hr.u1 (e_var 1) (e_kn (kn__law_take V) (hr.mono (by decide)) (ea_cons (e_var 0) (ea_cons (b_lenE V.b_len (ea_cons (e_var 1) ea_nil)) ea_nil))) (fun _ _ => rfl)))), ?_⟩
  obtain ⟨d, a, n, xs, rfl, hd, ha, h0, hl, hn, q⟩ := hsp
  show lRet _ _ [some (.ref d), some (.ref a)] _
  have nda : a ≠ d := fun z => by rw [z, hd] at ha; cases ha
  simp only [lIfS, lAnd, lOr, lNot, lB, lOp, lVar, lC, lCons, lNil, lTup, lLst, lUn, lCB, lAsg, gN, lSet, lRet, lRetN, lDrop, lNext, lIf, lBM, lFor, lLc, lDc, lIt, lRg1, lRg2, lEnum, lZip, lMeth, lCall, lProp, lFld, lFldS, lGlob, lIsi2, lChain, lSl, lSome, lNo, lAndV, lOrV, lNotV, lPar, lPar3, lMake, lDisp, lPCons, lPNil, lYes, lPTup, lUnP, lPIx, unP, gT, gCons2, gNil2, slotsOf_nil, slotsOf_cons, wipe2, sl, List.set, List.append_nil]
  refine lenT_lstI ha ⟨d, _, n, rfl, hd, ⟨by omega, by omega⟩, hn, fun r h1 h2 => ?_⟩
  obtain ⟨m, rfl⟩ := Int.eq_ofNat_of_zero_le h1
  have hm : m < xs.length := by omega
  have e : gup G d (.drw (n + 1)) a = some (.lst xs) := by rw [gup_ne nda]; exact ha
  exact ixT_lstI e (by rw [atT_nat hm, List.getElem?_eq_getElem hm]) (rtF.of (q _ (List.getElem_mem hm)))

/-! ### values of any depth -/
/-- what may be asked of its type, all the way down its tuples -/
inductive TyD (G : Gp) : T → Prop
  | non : TyD G .non
  | bl (b : Bool) : TyD G (.bl b)
  | int (i : Int) : TyD G (.int i)
  | str {s : Str} : s.length ≤ 1000 → PyData.strOk s = true → TyD G (.str s)
  | tup {xs : List T} : (∀ t ∈ xs, TyD G t) → xs.length ≤ 10000 → TyD G (.tup xs)
  | ref {a : Addr} : (tyS (.ref a) G).isSome = true → TyD G (.ref a)
theorem TyD.ty {G : Gp} {t : T} (h : TyD G t) : ∃ m, tyS t G = some m := by
  cases h with
  | ref h => exact Option.isSome_iff_exists.mp h
  | _ => exact ⟨_, rfl⟩
theorem ty_ref {G : Gp} {a : Addr} {m : String} (h : tyS (.ref a) G = some m) : m = "list" ∨ m = "dict" := by
  simp only [tyS] at h
  split at h <;> cases h <;> simp
def isIntT : T → Bool
  | .int _ => true
  | _ => false
def letters : Str := "abcdefghijklmnopqrstuvwxyz"
def isName (s : Str) : Bool := decide (1 ≤ s.length ∧ s.length ≤ 8) && s.cps.toList.all fun c => decide (c ∈ letters.cps.toList)
def outLet : T → Bool
  | .str s => !(s.cps.toList.all fun c => decide (c ∈ letters.cps.toList))
  | _ => false
def nameT : T → Bool
  | .str s => isName s
  | _ => false
def inRg (n : Int) : T → Bool
  | .int i => decide (0 ≤ i ∧ i < n)
  | _ => false
def ascT : List T → Bool
  | .int i :: .int j :: r => decide (i < j) && ascT (.int j :: r)
  | _ => true
def notAsc : T → Bool
  | .tup [.int i, .int j] => decide (j ≤ i)
  | _ => false
def fstT : T → T
  | .tup (x :: _) => x
  | t => t
theorem asc_zip {n : Int} : ∀ {xs : List T}, xs.all (inRg n) = true → ascT xs = decide (((zipT xs (xs.drop 1)).filter notAsc).map fstT = [])
  | [], _ => by simp [ascT, zipT]
  | [x], _ => by simp [ascT, zipT]
  | x :: y :: r, h => by
    have hx : inRg n x = true := by simp only [List.all_cons, Bool.and_eq_true] at h; exact h.1
    have hr : (y :: r).all (inRg n) = true := by simp only [List.all_cons, Bool.and_eq_true] at h ⊢; exact h.2
    have ih := asc_zip hr
    have hy : inRg n y = true := by simp only [List.all_cons, Bool.and_eq_true] at hr; exact hr.1
    cases x <;> simp only [inRg, Bool.false_eq_true] at hx
    cases y <;> simp only [inRg, Bool.false_eq_true] at hy
    rename_i i j
    simp only [ascT, ih]
    have e : zipT (T.int i :: T.int j :: r) ((T.int i :: T.int j :: r).drop 1) = .tup [.int i, .int j] :: zipT (T.int j :: r) ((T.int j :: r).drop 1) := by simp [zipT]
    rw [e, List.filter_cons]
    simp only [notAsc]
    by_cases h : j ≤ i
    · have h2 : ¬ i < j := by omega
      simp [h, h2]
    · have h2 : i < j := by omega
      simp [h, h2]
theorem cut_tail {α : Type} (xs : List α) : cut xs (some 1) none = xs.drop 1 := cut_from xs 1
def idxT (n : Int) : T → Bool
  | .tup xs => xs.all (inRg n) && ascT xs
  | _ => false
def spIsInt : Sp2 := fun ts G Φ _ => ∃ t, ts = [t] ∧ TyD G t ∧ Φ (.bl (isIntT t)) G
theorem sc_is_integer : FnScope ["value"] ["value"] (defScope (top 8)) := ⟨rfl, rfl, rfl, by decide +kernel, rfl, by decide +kernel, by decide +kernel⟩
theorem kn_is_integer (V : Env K mg CP) : Kn P w K mg base 1 "is_integer" spIsInt [] := by
  refine kn_of V.d_is_integer sc_is_integer (by rintro ts G Φ ΦE ⟨t, rfl, _⟩; rfl) fun f cdv A outer s H E ts G Φ ΦE hr ho hsp => ⟨_, (es_one (s_ret (e_and (b_isiE V.b_isinstance (ea_cons (e_var 0) (ea_cons (e_ty rfl V.b_int rfl) ea_nil))) (e_one (e_not (b_isiE V.b_isinstance (ea_cons (e_var 0) (ea_cons (e_ty rfl V.b_bool rfl) ea_nil)))))))), ?_⟩
  obtain ⟨t, rfl, ht, q⟩ := hsp
  show lRet _ _ [some t] _
  obtain ⟨m, hm⟩ := ht.ty
  simp only [lIfS, lAnd, lOr, lNot, lB, lOp, lVar, lC, lCons, lNil, lTup, lLst, lUn, lCB, lAsg, gN, lSet, lRet, lRetN, lDrop, lNext, lIf, lBM, lFor, lLc, lDc, lIt, lRg1, lRg2, lEnum, lZip, lMeth, lCall, lProp, lFld, lFldS, lGlob, lIsi2, lChain, lSl, lSome, lNo, lAndV, lOrV, lNotV, lPar, lPar3, lMake, lDisp, lPCons, lPNil, lYes, lPTup, lUnP, lPIx, unP, gT, gCons2, gNil2, slotsOf_nil, slotsOf_cons, wipe2, sl, List.set, List.append_nil, isiT, hm]
  refine ⟨by decide, ?_⟩
  have q := rtF.of q
  cases ht <;> simp only [tyS] at hm <;> (try cases hm) <;> try simpa [subS, isIntT, tysS, tyS] using q
  rcases ty_ref hm with rfl | rfl <;> simpa [subS, isIntT, tysS] using q
theorem isi_str {t : T} {G : Gp} {Φ : QT} (ht : TyD G t) (q : Φ (.bl (match t with | .str _ => true | _ => false)) G) : isiT [t, .ty "str"] G Φ := by
  obtain ⟨m, hm⟩ := ht.ty
  refine ⟨by decide, ?_⟩
  simp only [hm]
  cases ht <;> simp only [tyS] at hm <;> (try cases hm) <;> try simpa [subS] using q
  rcases ty_ref hm with rfl | rfl <;> simpa [subS] using q
theorem isi_tup {t : T} {G : Gp} {Φ : QT} (ht : TyD G t) (q : Φ (.bl (match t with | .tup _ => true | _ => false)) G) : isiT [t, .ty "tuple"] G Φ := by
  obtain ⟨m, hm⟩ := ht.ty
  refine ⟨by decide, ?_⟩
  simp only [hm]
  cases ht <;> simp only [tyS] at hm <;> (try cases hm) <;> try simpa [subS] using q
  rcases ty_ref hm with rfl | rfl <;> simpa [subS] using q
def spIsName : Sp2 := fun ts G Φ _ => ∃ t, ts = [t] ∧ TyD G t ∧ Φ (.bl (nameT t)) G
theorem sc_is_name : FnScope ["value", "sign"] ["value"] (defScope (top 9)) := ⟨rfl, rfl, rfl, by decide +kernel, rfl, by decide +kernel, by decide +kernel⟩
theorem kn_is_name (V : Env K mg CP) : Kn P w K mg base 1 "is_name" spIsName [] := by
  refine kn_of V.d_is_name sc_is_name (by rintro ts G Φ ΦE ⟨t, rfl, _⟩; rfl) fun f cdv A outer s H E ts G Φ ΦE hr ho hsp => ⟨_, (es_cons (s_if (et_w (ew_or (et_not (et_val (b_isiE V.b_isinstance (ea_cons (e_var 0) (ea_cons (e_ty rfl V.b_str rfl) ea_nil))))) (ew_or1 (et_not (et_chain o_le o_le e_int (b_lenE V.b_len (ea_cons (e_var 0) ea_nil)) e_int))))) (es_one (s_ret e_bl)) es_nil) (es_one (s_ret (e_cmp (o_eq hr.u64) (e_lc [("sign", 1)] sc_is_name.nd (i_val (e_var 0)) (fun _ _ _ _ _ => (g_name (j := 1) sc_is_name.nd rfl (by first | exact .inl rfl | exact .inr rfl))) (fun _ _ _ _ _ => (ts_one (et_cmp (o_notin hr.u65) (e_var 1) (e_gStr V.g_LETTERS)))) (fun _ _ _ _ _ => (e_var 1))) (e_lst ea_nil))))), ?_⟩
  obtain ⟨t, rfl, ht, q⟩ := hsp
  show lSeq _ _ _ [some t, none] _
  have q := rtF.of q
  have qf : nameT t = false → rtF Φ (.bl false) G := fun e => by rw [e] at q; exact q
  refine sq (M := fun S' G' => S' = [some t, none] ∧ G' = G ∧ ∃ x, t = .str x ∧ 1 ≤ x.length ∧ x.length ≤ 8) ?_ (fun R hR => ?_)
  · rintro S' G' ⟨rfl, rfl, x, rfl, h1, h2⟩
    simp only [lIfS, lAnd, lOr, lNot, lB, lOp, lVar, lC, lCons, lNil, lTup, lLst, lUn, lCB, lAsg, gN, lSet, lRet, lRetN, lDrop, lNext, lIf, lBM, lFor, lLc, lDc, lIt, lRg1, lRg2, lEnum, lZip, lMeth, lCall, lProp, lFld, lFldS, lGlob, lIsi2, lChain, lSl, lSome, lNo, lAndV, lOrV, lNotV, lPar, lPar3, lMake, lDisp, lPCons, lPNil, lYes, lPTup, lUnP, lPIx, unP, gT, gCons2, gNil2, slotsOf_nil, slotsOf_cons, wipe2, sl, List.set, List.append_nil, itT]
    have hc : x.cps.toList.length ≤ 8 := by rw [Array.length_toList]; exact h2
    refine lc_pure outLet id trivial (by rw [List.length_map, sizeLine_eq]; omega) (fun t ht => ?_) ?_
    · obtain ⟨c, _, rfl⟩ := List.mem_map.mp ht
      refine ⟨_, rfl, fun Φ h => ?_, fun _ G' sb Φ h => h _ (Sub.refl _)⟩
      simp only [lIfS, lAnd, lOr, lNot, lB, lOp, lVar, lC, lCons, lNil, lTup, lLst, lUn, lCB, lAsg, gN, lSet, lRet, lRetN, lDrop, lNext, lIf, lBM, lFor, lLc, lDc, lIt, lRg1, lRg2, lEnum, lZip, lMeth, lCall, lProp, lFld, lFldS, lGlob, lIsi2, lChain, lSl, lSome, lNo, lAndV, lOrV, lNotV, lPar, lPar3, lMake, lDisp, lPCons, lPNil, lYes, lPTup, lUnP, lPIx, unP, gT, gCons2, gNil2, slotsOf_nil, slotsOf_cons, wipe2, sl, List.set, List.append_nil]
      have hh := h _ (Sub.refl _)
      rw [show outLet (.str ⟨#[c]⟩) = !decide (c ∈ letters.cps.toList) by simp [outLet]] at hh
      exact ⟨c, rfl, hh⟩
    · intro p hp
      refine ⟨Nat.zero_le _, fun p2 hp2 => ?_⟩
      have hx : PyData.strOk x = true := by cases ht; assumption
      refine eqT_lst (by rw [gup_ne (fresh_ne gup_same hp2).symm, gup_same]) gup_same (fun u hu => ?_) PlaL.nil ?_
      · rw [List.map_id] at hu
        obtain ⟨c, hc, rfl⟩ := List.mem_map.mp (List.mem_filter.mp hu).1
        have h2 := Array.all_eq_true_iff_forall_mem.mp hx c (by simpa using hc)
        exact ⟨by simp [nr, PyData.strOk]; simpa using h2, by simp [nb], by simp [dpt]⟩
      · refine rtF.up ?_ ((Sub.gup hp).trans (Sub.gup hp2))
        refine cast (congrArg (fun b => rtF Φ (.bl b) G') ?_) q
        simp only [nameT, isName]
        rw [decide_eq_true ⟨h1, h2⟩, Bool.true_and, List.map_id, Bool.eq_iff_iff, decide_eq_true_iff, List.filter_eq_nil_iff, List.all_eq_true]
        constructor
        · intro h u hu
          obtain ⟨c, hc, rfl⟩ := List.mem_map.mp hu
          simpa [outLet] using h c hc
        · intro h c hc
          simpa [outLet] using h _ (List.mem_map.mpr ⟨c, hc, rfl⟩)
  · simp only [lIfS, lAnd, lOr, lNot, lB, lOp, lVar, lC, lCons, lNil, lTup, lLst, lUn, lCB, lAsg, gN, lSet, lRet, lRetN, lDrop, lNext, lIf, lBM, lFor, lLc, lDc, lIt, lRg1, lRg2, lEnum, lZip, lMeth, lCall, lProp, lFld, lFldS, lGlob, lIsi2, lChain, lSl, lSome, lNo, lAndV, lOrV, lNotV, lPar, lPar3, lMake, lDisp, lPCons, lPNil, lYes, lPTup, lUnP, lPIx, unP, gT, gCons2, gNil2, slotsOf_nil, slotsOf_cons, wipe2, sl, List.set, List.append_nil]
    refine isi_str ht ?_
    cases ht with
    | @str x hs hk =>
      simp only [Bool.not_true, Bool.false_eq_true, if_false]
      refine ⟨by rw [sizeLine_eq]; omega, ?_⟩
      simp only [ordT]
      by_cases h1 : (1 : Int) ≤ (x.length : Int)
      · simp only [h1, decide_true]
        by_cases h2 : (x.length : Int) ≤ 8
        · simp only [h2, decide_true, Bool.not_true, Bool.false_eq_true, if_false]
          exact hR _ _ _ (Sub.refl _) ⟨rfl, rfl, x, rfl, by omega, by omega⟩
        · simp only [h2, decide_false, Bool.not_false, if_true]
          exact qf (by simp only [nameT, isName]; rw [decide_eq_false (by omega)]; rfl)
      · simp only [h1, decide_false, Bool.not_false, if_true]
        exact qf (by simp only [nameT, isName]; rw [decide_eq_false (by omega)]; rfl)
    | _ => exact qf rfl

end K16
namespace K16
open PySem PySem.Spec PyProof.Rows L2 Dv
variable {P : Program} {w : World} {K : Fr0} {mg : Str → Option Value} {base : Heap} {CP : Addr}
/-! ### layouts -/
abbrev Lay := List (Str × Nat)
def layT (ls : Lay) : List (T × T) := ls.map fun q => (T.str q.1, T.int (q.2 : Int))
structure GoodLay (ls : Lay) : Prop where
  name : ∀ q ∈ ls, isName q.1 = true ∧ PyData.strOk q.1 = true ∧ q.2 < 8
  nd : (ls.map (·.1)).Nodup
  len : 1 ≤ ls.length ∧ ls.length ≤ 12
theorem look_lay {ls : Lay} {s : Str} : dlook (layT ls) (.str s) = (ls.lookup s).map fun i => T.int (i : Int) := by
  induction ls with
  | nil => rfl
  | cons q r ih =>
    obtain ⟨n, i⟩ := q
    simp only [layT, List.map_cons, dlook, T.str.injEq, List.lookup_cons]
    by_cases h : n = s
    · subst h; simp
    · rw [if_neg h, show (s == n) = false from beq_eq_false_iff_ne.mpr (Ne.symm h)]
      exact ih
theorem lay_mem : ∀ {ls : Lay} {q : Str × Nat}, (ls.map (·.1)).Nodup → q ∈ ls → ls.lookup q.1 = some q.2
  | [], q, _, h => by cases h
  | (n, xs) :: r, q, hn, h => by
    have hn' := List.nodup_cons.mp hn
    rcases List.mem_cons.mp h with rfl | h
    · simp
    · have e : (q.1 == n) = false := beq_eq_false_iff_ne.mpr fun z => hn'.1 (z ▸ List.mem_map.mpr ⟨q, h, rfl⟩)
      rw [List.lookup_cons, e]
      exact lay_mem hn'.2 h
theorem isName_len {s : Str} (h : isName s = true) : 1 ≤ s.length ∧ s.length ≤ 8 := by
  simp only [isName, Bool.and_eq_true, decide_eq_true_eq] at h
  exact h.1
def spIsSet : Sp2 := fun ts G Φ _ => ∃ t, ts = [t] ∧ TyD G t ∧ Φ (.bl (match t with | .int i => decide (0 ≤ i ∧ i < 8) | _ => false)) G
theorem sc_is_set : FnScope ["value"] ["value"] (defScope (top 14)) := ⟨rfl, rfl, rfl, by decide +kernel, rfl, by decide +kernel, by decide +kernel⟩
theorem kn_is_set (V : Env K mg CP) : Kn P w K mg base 2 "is_set" spIsSet [] := by
  refine kn_of V.d_is_set sc_is_set (by rintro ts G Φ ΦE ⟨t, rfl, _⟩; rfl) fun f cdv A outer s H E ts G Φ ΦE hr ho hsp => ⟨_, (es_one (s_ret (e_and (e_kn (kn_is_integer V) (hr.mono (by decide)) (ea_cons (e_var 0) ea_nil)) (e_one (e_chain o_le o_lt e_int (e_var 0) (e_gInt V.g_MOST_SETS)))))), ?_⟩
  obtain ⟨t, rfl, ht, q⟩ := hsp
  show lRet _ _ [some t] _
  simp only [lIfS, lAnd, lOr, lNot, lB, lOp, lVar, lC, lCons, lNil, lTup, lLst, lUn, lCB, lAsg, gN, lSet, lRet, lRetN, lDrop, lNext, lIf, lBM, lFor, lLc, lDc, lIt, lRg1, lRg2, lEnum, lZip, lMeth, lCall, lProp, lFld, lFldS, lGlob, lIsi2, lChain, lSl, lSome, lNo, lAndV, lOrV, lNotV, lPar, lPar3, lMake, lDisp, lPCons, lPNil, lYes, lPTup, lUnP, lPIx, unP, gT, gCons2, gNil2, slotsOf_nil, slotsOf_cons, wipe2, sl, List.set, List.append_nil]
  refine ⟨t, rfl, ht, ?_⟩
  have q := rtF.of q
  cases t with
  | int i =>
    simp only [isIntT, ordT]
    by_cases h1 : 0 ≤ i
    · simp only [h1, decide_true]
      simpa [h1] using q
    · simp only [h1, decide_false]
      simpa [h1] using q
  | _ => exact q
def spIsLay : Sp2 := fun ts G Φ _ => ∃ d ls, ts = [.ref d] ∧ G d = some (.dic (layT ls)) ∧ GoodLay ls ∧ Φ (.bl true) G
theorem sc_is_layout : FnScope ["value", "block"] ["value"] (defScope (top 15)) := ⟨rfl, rfl, rfl, by decide +kernel, rfl, by decide +kernel, by decide +kernel⟩
theorem kn_is_layout (V : Env K mg CP) : Kn P w K mg base 3 "is_layout" spIsLay [] := by
  refine kn_of V.d_is_layout sc_is_layout (by rintro ts G Φ ΦE ⟨d, ls, rfl, _⟩; rfl) fun f cdv A outer s H E ts G Φ ΦE hr ho hsp => ⟨_, (es_cons (s_if (et_w (ew_or (et_not (et_val (b_isiE V.b_isinstance (ea_cons (e_var 0) (ea_cons (e_ty rfl V.b_dict rfl) ea_nil))))) (ew_or1 (et_not (et_chain o_le o_le e_int (b_lenE V.b_len (ea_cons (e_var 0) ea_nil)) (e_gInt V.g_MOST_KEPT)))))) (es_one (s_ret e_bl)) es_nil) (es_one (s_ret (e_cmp (o_eq hr.u64) (e_lock (e_lc [("block", 1)] sc_is_layout.nd (i_val (e_var 0)) (fun _ _ _ _ _ => (g_name (j := 1) sc_is_layout.nd rfl (by first | exact .inl rfl | exact .inr rfl))) (fun _ _ _ _ _ => (ts_one (et_w (ew_or (et_not (et_val (e_kn (kn_is_name V) (hr.mono (by decide)) (ea_cons (e_var 1) ea_nil)))) (ew_or1 (et_not (et_val (e_kn (kn_is_set V) (hr.mono (by decide)) (ea_cons (e_ix hr.u1 (e_var 0) (e_var 1) (fun _ _ => rfl)) ea_nil))))))))) (fun _ _ _ _ _ => (e_var 1)))) (e_lst ea_nil))))), ?_⟩
  obtain ⟨d, ls, rfl, hd, hg, q⟩ := hsp
  have hl : (layT ls).length = ls.length := by simp [layT]
  show lSeq _ _ _ [some (.ref d), none] _
  refine sq1 (S1 := [some (.ref d), none]) (G1 := G) (fun R hR => ?_) ?_
  · simp only [lIfS, lAnd, lOr, lNot, lB, lOp, lVar, lC, lCons, lNil, lTup, lLst, lUn, lCB, lAsg, gN, lSet, lRet, lRetN, lDrop, lNext, lIf, lBM, lFor, lLc, lDc, lIt, lRg1, lRg2, lEnum, lZip, lMeth, lCall, lProp, lFld, lFldS, lGlob, lIsi2, lChain, lSl, lSome, lNo, lAndV, lOrV, lNotV, lPar, lPar3, lMake, lDisp, lPCons, lPNil, lYes, lPTup, lUnP, lPIx, unP, gT, gCons2, gNil2, slotsOf_nil, slotsOf_cons, wipe2, sl, List.set, List.append_nil]
    have e1 : (1 : Int) ≤ ((layT ls).length : Int) := by have := hg.len.1; omega
    have e2 : ((layT ls).length : Int) ≤ 12 := by have := hg.len.2; omega
    refine isi_dic hd ?_
    simp only [Bool.not_true, Bool.false_eq_true, if_false]
    refine lenT_dicI hd ?_
    simp only [ordT, e1, e2, decide_true, Bool.not_true, Bool.false_eq_true, if_false]
    exact hR _ (Sub.refl _)
  · simp only [lIfS, lAnd, lOr, lNot, lB, lOp, lVar, lC, lCons, lNil, lTup, lLst, lUn, lCB, lAsg, gN, lSet, lRet, lRetN, lDrop, lNext, lIf, lBM, lFor, lLc, lDc, lIt, lRg1, lRg2, lEnum, lZip, lMeth, lCall, lProp, lFld, lFldS, lGlob, lIsi2, lChain, lSl, lSome, lNo, lAndV, lOrV, lNotV, lPar, lPar3, lMake, lDisp, lPCons, lPNil, lYes, lPTup, lUnP, lPIx, unP, gT, gCons2, gNil2, slotsOf_nil, slotsOf_cons, wipe2, sl, List.set, List.append_nil]
    refine ⟨d, ?_⟩
    simp only [hd]
    intro ob raw
    simp only [lIfS, lAnd, lOr, lNot, lB, lOp, lVar, lC, lCons, lNil, lTup, lLst, lUn, lCB, lAsg, gN, lSet, lRet, lRetN, lDrop, lNext, lIf, lBM, lFor, lLc, lDc, lIt, lRg1, lRg2, lEnum, lZip, lMeth, lCall, lProp, lFld, lFldS, lGlob, lIsi2, lChain, lSl, lSome, lNo, lAndV, lOrV, lNotV, lPar, lPar3, lMake, lDisp, lPCons, lPNil, lYes, lPTup, lUnP, lPIx, unP, gT, gCons2, gNil2, slotsOf_nil, slotsOf_cons, wipe2, sl, List.set, List.append_nil]
    refine itT_dic gup_same (lc_pure (fun _ => false) id gup_same (by rw [List.length_map, hl, sizeLine_eq]; have := hg.len.2; omega) (fun t ht => ?_) ?_)
    · obtain ⟨kv, hkv, rfl⟩ := List.mem_map.mp ht
      obtain ⟨p, hp, rfl⟩ := List.mem_map.mp hkv
      obtain ⟨h1, h2, h3⟩ := hg.name p hp
      have h4 := isName_len h1
      refine ⟨_, rfl, fun Φ h => ?_, fun _ G' sb Φ h => h _ (Sub.refl _)⟩
      simp only [lIfS, lAnd, lOr, lNot, lB, lOp, lVar, lC, lCons, lNil, lTup, lLst, lUn, lCB, lAsg, gN, lSet, lRet, lRetN, lDrop, lNext, lIf, lBM, lFor, lLc, lDc, lIt, lRg1, lRg2, lEnum, lZip, lMeth, lCall, lProp, lFld, lFldS, lGlob, lIsi2, lChain, lSl, lSome, lNo, lAndV, lOrV, lNotV, lPar, lPar3, lMake, lDisp, lPCons, lPNil, lYes, lPTup, lUnP, lPIx, unP, gT, gCons2, gNil2, slotsOf_nil, slotsOf_cons, wipe2, sl, List.set, List.append_nil]
      refine ⟨_, rfl, .str (by omega) h2, ?_⟩
      simp only [nameT, h1, Bool.not_true, Bool.false_eq_true, if_false]
      simp only [ixT, gup_same, keyT, look_lay, lay_mem hg.nd hp, Option.map_some]
      refine ⟨_, rfl, .int _, ?_⟩
      have e : decide (0 ≤ (p.2 : Int) ∧ (p.2 : Int) < 8) = true := decide_eq_true ⟨by omega, by omega⟩
      simp only [e, Bool.not_true]
      exact h _ (Sub.refl _)
    · intro p hp
      have hpd : p ≠ d := fresh_ne gup_same hp
      rw [gup_ne hpd] at hp
      refine ⟨by rw [gup_ne hpd.symm, gup_same], ?_⟩
      rw [lock_back hd hpd]
      refine ⟨Nat.zero_le _, fun p2 hp2 => ?_⟩
      have e : (((layT ls).map (·.1)).filter fun _ => false).map id = [] := by rw [List.map_id, List.filter_eq_nil_iff]; exact fun _ _ => by decide
      rw [e] at hp2 ⊢
      refine eqT_lst (by rw [gup_ne (fresh_ne gup_same hp2).symm, gup_same]) gup_same PlaL.nil PlaL.nil ?_
      exact rtF.sub ((Sub.gup hp).trans (Sub.gup hp2)) q
def spNeedLay : Sp2 := fun ts G Φ _ => ∃ d ls, ts = [.ref d] ∧ G d = some (.dic (layT ls)) ∧ GoodLay ls ∧ Φ .non G
theorem sc_need_layout : FnScope ["value"] ["value"] (defScope (top 16)) := ⟨rfl, rfl, rfl, by decide +kernel, rfl, by decide +kernel, by decide +kernel⟩
theorem kn_need_layout (V : Env K mg CP) : Kn P w K mg base 4 "need_layout" spNeedLay [] := by
  refine kn_of V.d_need_layout sc_need_layout (by rintro ts G Φ ΦE ⟨d, ls, rfl, _⟩; rfl) fun f cdv A outer s H E ts G Φ ΦE hr ho hsp => ⟨_, (es_one (s_if (et_not (et_val (e_kn (kn_is_layout V) (hr.mono (by decide)) (ea_cons (e_var 0) ea_nil)))) (es_one s_never) es_nil)), ?_⟩
  obtain ⟨d, ls, rfl, hd, hg, q⟩ := hsp
  show lIfS _ _ _ _ [some (.ref d)] _
  simp only [lIfS, lAnd, lOr, lNot, lB, lOp, lVar, lC, lCons, lNil, lTup, lLst, lUn, lCB, lAsg, gN, lSet, lRet, lRetN, lDrop, lNext, lIf, lBM, lFor, lLc, lDc, lIt, lRg1, lRg2, lEnum, lZip, lMeth, lCall, lProp, lFld, lFldS, lGlob, lIsi2, lChain, lSl, lSome, lNo, lAndV, lOrV, lNotV, lPar, lPar3, lMake, lDisp, lPCons, lPNil, lYes, lPTup, lUnP, lPIx, unP, gT, gCons2, gNil2, slotsOf_nil, slotsOf_cons, wipe2, sl, List.set, List.append_nil]
  exact ⟨d, ls, rfl, hd, hg, rtF.of q⟩
def spNeedBlock : Sp2 := fun ts G Φ _ => ∃ d kvs s, ts = [.ref d, .str s] ∧ G d = some (.dic kvs) ∧ (dlook kvs (.str s)).isSome = true ∧ Φ .non G
theorem sc_need_block : FnScope ["layout", "value"] ["layout", "value"] (defScope (top 17)) := ⟨rfl, rfl, rfl, by decide +kernel, rfl, by decide +kernel, by decide +kernel⟩
theorem kn_need_block (V : Env K mg CP) : Kn P w K mg base 1 "need_block" spNeedBlock [] := by
  refine kn_of V.d_need_block sc_need_block (by rintro ts G Φ ΦE ⟨d, kvs, s, rfl, _⟩; rfl) fun f cdv A outer s H E ts G Φ ΦE hr ho hsp => ⟨_, (es_one (s_if (et_w (ew_or (et_not (et_val (b_isiE V.b_isinstance (ea_cons (e_var 1) (ea_cons (e_ty rfl V.b_str rfl) ea_nil))))) (ew_or1 (et_cmp (o_notin hr.u65) (e_var 1) (e_var 0))))) (es_one s_never) es_nil)), ?_⟩
  obtain ⟨d, kvs, z, rfl, hd, hs, q⟩ := hsp
  show lIfS _ _ _ _ [some (.ref d), some (.str z)] _
  simp only [lIfS, lAnd, lOr, lNot, lB, lOp, lVar, lC, lCons, lNil, lTup, lLst, lUn, lCB, lAsg, gN, lSet, lRet, lRetN, lDrop, lNext, lIf, lBM, lFor, lLc, lDc, lIt, lRg1, lRg2, lEnum, lZip, lMeth, lCall, lProp, lFld, lFldS, lGlob, lIsi2, lChain, lSl, lSome, lNo, lAndV, lOrV, lNotV, lPar, lPar3, lMake, lDisp, lPCons, lPNil, lYes, lPTup, lUnP, lPIx, unP, gT, gCons2, gNil2, slotsOf_nil, slotsOf_cons, wipe2, sl, List.set, List.append_nil]
  refine ⟨by decide, ?_⟩
  simp only [tyS, show subS "str" "str" = true by decide, Bool.not_true, Bool.false_eq_true, if_false, inT, hd, keyT, hs, if_true]
  exact rtF.of q
def spNeedWays : Sp2 := fun ts G Φ _ => ∃ i : Int, ts = [.int i] ∧ 1 ≤ i ∧ i ≤ 8 ∧ Φ .non G
theorem sc_need_ways : FnScope ["value"] ["value"] (defScope (top 18)) := ⟨rfl, rfl, rfl, by decide +kernel, rfl, by decide +kernel, by decide +kernel⟩
theorem kn_need_ways (V : Env K mg CP) : Kn P w K mg base 2 "need_ways" spNeedWays [] := by
  refine kn_of V.d_need_ways sc_need_ways (by rintro ts G Φ ΦE ⟨i, rfl, _⟩; rfl) fun f cdv A outer s H E ts G Φ ΦE hr ho hsp => ⟨_, (es_one (s_if (et_w (ew_or (et_not (et_val (e_kn (kn_is_integer V) (hr.mono (by decide)) (ea_cons (e_var 0) ea_nil)))) (ew_or1 (et_not (et_chain o_le o_le e_int (e_var 0) (e_gInt V.g_MOST_WAYS)))))) (es_one s_never) es_nil)), ?_⟩
  obtain ⟨i, rfl, h1, h2, q⟩ := hsp
  show lIfS _ _ _ _ [some (.int i)] _
  simp only [lIfS, lAnd, lOr, lNot, lB, lOp, lVar, lC, lCons, lNil, lTup, lLst, lUn, lCB, lAsg, gN, lSet, lRet, lRetN, lDrop, lNext, lIf, lBM, lFor, lLc, lDc, lIt, lRg1, lRg2, lEnum, lZip, lMeth, lCall, lProp, lFld, lFldS, lGlob, lIsi2, lChain, lSl, lSome, lNo, lAndV, lOrV, lNotV, lPar, lPar3, lMake, lDisp, lPCons, lPNil, lYes, lPTup, lUnP, lPIx, unP, gT, gCons2, gNil2, slotsOf_nil, slotsOf_cons, wipe2, sl, List.set, List.append_nil]
  refine ⟨_, rfl, .int i, ?_⟩
  simp only [isIntT, Bool.not_true, Bool.false_eq_true, if_false, ordT, h1, h2, decide_true]
  exact rtF.of q

end K16
namespace K16
open PySem PySem.Spec PyProof.Rows L2 Dv
variable {P : Program} {w : World} {K : Fr0} {mg : Str → Option Value} {base : Heap} {CP : Addr}
/-- all but the draws stays -/
def SubX (dr : Addr) (G G' : Gp) : Prop := ∀ b o, b ≠ dr → G b = some o → G' b = some o
theorem SubX.refl {dr : Addr} (G : Gp) : SubX dr G G := fun _ _ _ h => h
theorem SubX.sub {dr : Addr} {G G1 G2 : Gp} (h : SubX dr G G1) (s : Sub G1 G2) : SubX dr G G2 := fun b o hb e => s b o (h b o hb e)
theorem SubX.draw {dr : Addr} {G G1 : Gp} {o : O} (h : SubX dr G G1) : SubX dr G (gup G1 dr o) := fun b u hb e => by rw [gup_ne hb]; exact h b u hb e
theorem SubX.set {dr p : Addr} {G G1 : Gp} {o : O} (h : SubX dr G G1) (hp : G p = none) : SubX dr G (gup G1 p o) := fun b u hb e => by
  rw [gup_ne (fun z => by rw [z, hp] at e; cases e)]; exact h b u hb e
theorem SubX.trans {dr : Addr} {G G1 G2 : Gp} (h : SubX dr G G1) (h2 : SubX dr G1 G2) : SubX dr G G2 := fun b o hb e => h2 b o hb (h b o hb e)
theorem SubX.fresh {dr p : Addr} {G G1 : Gp} (h : SubX dr G G1) (hp : p ≠ dr) (e : G1 p = none) : G p = none := by
  cases q : G p with
  | none => rfl
  | some o => rw [h p o hp q] at e; cases e
theorem perm_erase : ∀ (l : List T) (i : Nat) (h : i < l.length), ([l[i]] ++ l.eraseIdx i).Perm l
  | [], _, h => absurd h (Nat.not_lt_zero _)
  | x :: l, 0, _ => List.Perm.refl _
  | x :: l, i + 1, h => by
    have hi : i < l.length := by simpa using h
    have ih := perm_erase l i hi
    simp only [List.getElem_cons_succ, List.eraseIdx_cons_succ, List.singleton_append] at ih ⊢
    exact (List.Perm.swap x l[i] _).trans (List.Perm.cons x ih)
def spShuf : Sp2 := fun ts G Φ _ => ∃ dr a n xs, ts = [.ref dr, .ref a] ∧ G dr = some (.drw n) ∧ G a = some (.lst xs) ∧ PlaL xs ∧ xs.length ≤ 1000 ∧ n + xs.length < mostDraws ∧
  ∀ p ys G', SubX dr G G' → G' dr = some (.drw (n + xs.length)) → G p = none → G' p = some (.lst ys) → ys.Perm xs → Φ (.ref p) G'
theorem sc__law_shuffled : FnScope ["_law_draw", "_law_some", "_law_left", "_law_found"] ["_law_draw", "_law_some"] (defScope (top 26)) := ⟨rfl, rfl, rfl, by decide +kernel, rfl, by decide +kernel, by decide +kernel⟩
theorem kn__law_shuffled (V : Env K mg CP) : Kn P w K mg base 2 "_law_shuffled" spShuf [] := by
  refine kn_of V.d__law_shuffled sc__law_shuffled (by rintro ts G Φ ΦE ⟨d, a, n, xs, rfl, _⟩; rfl) fun f cdv A outer s H E ts G Φ ΦE hr ho hsp => ⟨_, (es_cons (s_par (j := 2) (k := 3) rfl sc__law_shuffled.nd rfl rfl (by decide) rfl rfl (ea_cons (b_listE V.b_list (ea_cons (e_var 1) ea_nil)) (ea_cons (e_lst ea_nil) ea_nil)) rfl) (es_cons (s_while (passes_of rfl) (et_cmp (o_ne hr.u64) (e_var 2) (e_lst ea_nil)) (es_one (s_expr (e_append (e_var 3) (ea_cons (e_pop (e_var 2) (ea_cons (e_kn (kn__law_take V) (hr.mono (by decide)) (ea_cons (e_var 0) (ea_cons (b_lenE V.b_len (ea_cons (e_var 2) ea_nil)) ea_nil))) ea_nil)) ea_nil))))) (es_one (s_ret (e_var 3))))), ?_⟩
  obtain ⟨dr, a, n, xs, rfl, hd, ha, hpl, hl, hn, q⟩ := hsp
  have hmd : mostDraws = 10 ^ 9 := rfl
  show lSeq _ _ _ [some (.ref dr), some (.ref a), none, none] _
  refine sq (M := fun S' G' => ∃ l p, S' = [some (.ref dr), some (.ref a), some (.ref l), some (.ref p)] ∧ G l = none ∧ G p = none ∧ p ≠ l ∧ SubX dr G G' ∧ G' dr = some (.drw n) ∧ G' l = some (.lst xs) ∧ G' p = some (.lst [])) ?_ (fun R hR => ?_)
  · rintro S' G' ⟨l, p, rfl, hl0, hp0, hpl0, sb, gd, gl, gp⟩
    have hld : l ≠ dr := fun z => by rw [z, hd] at hl0; cases hl0
    have hpd : p ≠ dr := fun z => by rw [z, hd] at hp0; cases hp0
    refine sq (M := fun S' G' => S' = [some (.ref dr), some (.ref a), some (.ref l), some (.ref p)] ∧ ∃ ys, SubX dr G G' ∧ G' dr = some (.drw (n + xs.length)) ∧ G' p = some (.lst ys) ∧ ys.Perm xs) ?_ (fun R hR => ?_)
    · rintro S' G' ⟨rfl, ys, sb, gd, gp, hperm⟩
      simp only [lIfS, lAnd, lOr, lNot, lB, lOp, lVar, lC, lCons, lNil, lTup, lLst, lUn, lCB, lAsg, gN, lSet, lRet, lRetN, lDrop, lNext, lIf, lBM, lFor, lLc, lDc, lIt, lRg1, lRg2, lEnum, lZip, lMeth, lCall, lProp, lFld, lFldS, lGlob, lIsi2, lChain, lSl, lSome, lNo, lAndV, lOrV, lNotV, lPar, lPar3, lMake, lDisp, lPCons, lPNil, lYes, lPTup, lUnP, lPIx, unP, gT, gCons2, gNil2, slotsOf_nil, slotsOf_cons, wipe2, sl, List.set, List.append_nil]
      exact rtF.of (q p ys G' sb gd hp0 gp hperm)
    · refine ⟨fun m S2 G2 => S2 = [some (.ref dr), some (.ref a), some (.ref l), some (.ref p)] ∧ ∃ us ys, m = us.length ∧ SubX dr G G2 ∧ G2 dr = some (.drw (n + ys.length)) ∧ G2 l = some (.lst us) ∧ G2 p = some (.lst ys) ∧ (ys ++ us).Perm xs, ⟨_, rfl, xs, [], rfl, sb, gd, gl, gp, List.Perm.refl _⟩, ?_⟩
      rintro m S2 G2 ⟨rfl, us, ys, rfl, sb, gd, gl, gp, hperm⟩
      have hus : PlaL us := fun t ht => hpl t (hperm.subset (List.mem_append.mpr (.inr ht)))
      have hlen : ys.length + us.length = xs.length := by rw [← hperm.length_eq, List.length_append]
      simp only [lIfS, lAnd, lOr, lNot, lB, lOp, lVar, lC, lCons, lNil, lTup, lLst, lUn, lCB, lAsg, gN, lSet, lRet, lRetN, lDrop, lNext, lIf, lBM, lFor, lLc, lDc, lIt, lRg1, lRg2, lEnum, lZip, lMeth, lCall, lProp, lFld, lFldS, lGlob, lIsi2, lChain, lSl, lSome, lNo, lAndV, lOrV, lNotV, lPar, lPar3, lMake, lDisp, lPCons, lPNil, lYes, lPTup, lUnP, lPIx, unP, gT, gCons2, gNil2, slotsOf_nil, slotsOf_cons, wipe2, sl, List.set, List.append_nil]
      refine ⟨Nat.zero_le _, fun e he => neT_lst (Sub.gup he _ _ gl) gup_same hus PlaL.nil ⟨G2, Sub.gup he, ?_⟩⟩
      cases us with
      | nil =>
        simp only [decide_true, Bool.not_true, Bool.false_eq_true, if_false]
        refine hR _ _ _ (Sub.refl _) ⟨rfl, ys, sb, ?_, gp, by simpa using hperm⟩
        rw [gd]
        simp only [List.length_nil, Nat.add_zero] at hlen
        rw [hlen]
      | cons u us =>
        simp only [reduceCtorEq, decide_false, Bool.not_false, if_true]
        refine ⟨tyT_lst gp, tyT_lst gl, lenT_lstI gl ⟨dr, _, n + ys.length, rfl, gd, ⟨by simp, by simp at hlen ⊢; omega⟩, by rw [hmd]; rw [hmd] at hn; omega, fun r h1 h2 => ?_⟩⟩
        obtain ⟨i, rfl⟩ := Int.eq_ofNat_of_zero_le h1
        have hi : i < (u :: us).length := by omega
        have g1 : gup G2 dr (.drw (n + ys.length + 1)) l = some (.lst (u :: us)) := by rw [gup_ne hld]; exact gl
        refine popT_atI (n := i) g1 rfl (by simp at hi hlen; omega) (List.getElem?_eq_getElem hi) ?_
        have g2 : gup (gup G2 dr (.drw (n + ys.length + 1))) l (.lst ((u :: us).eraseIdx i)) p = some (.lst ys) := by rw [gup_ne hpl0, gup_ne hpd]; exact gp
        refine appT_lstI g2 (by rw [sizeLine_eq]; simp at hlen; omega) ?_
        refine ⟨_, _, ?_, Sub.refl _, trivial, (u :: us).eraseIdx i, ys ++ [(u :: us)[i]], rfl, ((sb.draw).set hl0).set hp0, ?_, ?_, gup_same, ?_⟩
        · rw [List.length_eraseIdx_of_lt hi]; simp
        · rw [gup_ne hpd.symm, gup_ne hld.symm, gup_same]; simp; omega
        · rw [gup_ne hpl0.symm, gup_same]
        · rw [List.append_assoc]
          refine List.Perm.trans (List.Perm.append_left ys ?_) hperm
          exact perm_erase _ _ hi
  · simp only [lIfS, lAnd, lOr, lNot, lB, lOp, lVar, lC, lCons, lNil, lTup, lLst, lUn, lCB, lAsg, gN, lSet, lRet, lRetN, lDrop, lNext, lIf, lBM, lFor, lLc, lDc, lIt, lRg1, lRg2, lEnum, lZip, lMeth, lCall, lProp, lFld, lFldS, lGlob, lIsi2, lChain, lSl, lSome, lNo, lAndV, lOrV, lNotV, lPar, lPar3, lMake, lDisp, lPCons, lPNil, lYes, lPTup, lUnP, lPIx, unP, gT, gCons2, gNil2, slotsOf_nil, slotsOf_cons, wipe2, sl, List.set, List.append_nil]
    simp only [listT, ha]
    intro l hl0
    refine ⟨Nat.zero_le _, fun p hp0 => ?_⟩
    have hpl0 : p ≠ l := fresh_ne gup_same hp0
    have hp1 := hp0
    rw [gup_ne hpl0] at hp1
    refine hR _ _ _ (Sub.refl _) ⟨l, p, rfl, hl0, hp1, hpl0, (SubX.refl G).sub ((Sub.gup hl0).trans (Sub.gup hp0)), (Sub.gup hp0) _ _ ((Sub.gup hl0) _ _ hd), ?_, gup_same⟩
    rw [gup_ne hpl0.symm, gup_same]

end K16
namespace K16
open PySem PySem.Spec PyProof.Rows L2 Dv
variable {P : Program} {w : World} {K : Fr0} {mg : Str → Option Value} {base : Heap} {CP : Addr}
/-! ### caches -/
abbrev Rows := Nat → List Str
def rowsT (rw : Rows) : List (T × T) := (List.range 8).map fun (i : Nat) => (T.int (i : Int), T.tup ((rw i).map T.str))
def touchL (b : Str) (w : Nat) (l : List Str) : List Str := (b :: l.filter fun o => decide (o ≠ b)).take w
def setR (rw : Rows) (i : Nat) (l : List Str) : Rows := fun j => if j = i then l else rw j
theorem look_rng {f : Nat → T} {i : Nat} : ∀ {n : Nat}, i < n → dlook ((List.range n).map fun (j : Nat) => (T.int (j : Int), f j)) (.int (i : Int)) = some (f i) := by
  have app : ∀ {l r : List (T × T)} {t : T}, dlook (l ++ r) t = match dlook l t with | some u => some u | none => dlook r t := by
    intro l r t
    induction l with
    | nil => rfl
    | cons kv l ih =>
      obtain ⟨k, v⟩ := kv
      simp only [List.cons_append, dlook]
      split
      · rfl
      · exact ih
  intro n
  induction n with
  | zero => intro h; exact absurd h (Nat.not_lt_zero _)
  | succ n ih =>
    intro h
    rw [List.range_succ, List.map_append, app]
    rcases Nat.lt_or_ge i n with h2 | h2
    · rw [ih h2]
    · have e : i = n := by omega
      subst e
      have hn : dlook ((List.range i).map fun (j : Nat) => (T.int (j : Int), f j)) (.int (i : Int)) = none := by
        have : ∀ l : List Nat, (∀ j ∈ l, j ≠ i) → dlook (l.map fun (j : Nat) => (T.int (j : Int), f j)) (.int (i : Int)) = none := by
          intro l
          induction l with
          | nil => intro _; rfl
          | cons j l ihl =>
            intro hl
            simp only [List.map_cons, dlook, T.int.injEq]
            rw [if_neg (by have := hl j (by simp); omega)]
            exact ihl fun k hk => hl k (by simp [hk])
        exact this _ fun j hj => by have := List.mem_range.mp hj; omega
      rw [hn]
      simp [dlook]
theorem put_rng {f : Nat → T} {i n : Nat} {u : T} (h : i < n) : dput ((List.range n).map fun (j : Nat) => (T.int (j : Int), f j)) (.int (i : Int)) u = (List.range n).map fun (j : Nat) => (T.int (j : Int), if j = i then u else f j) := by
  unfold dput
  rw [if_pos (by
    rw [List.any_eq_true]
    exact ⟨_, List.mem_map.mpr ⟨i, List.mem_range.mpr h, rfl⟩, by simp⟩), List.map_map]
  refine List.map_congr_left fun j _ => ?_
  simp only [Function.comp, T.int.injEq]
  by_cases e : j = i
  · subst e; simp
  · rw [if_neg (by omega), if_neg e]
theorem look_rows {rw : Rows} {i : Nat} (h : i < 8) : dlook (rowsT rw) (.int (i : Int)) = some (.tup ((rw i).map T.str)) := look_rng h
theorem put_rows {rw : Rows} {i : Nat} {l : List Str} (h : i < 8) : dput (rowsT rw) (.int (i : Int)) (.tup (l.map T.str)) = rowsT (setR rw i l) := by
  unfold rowsT
  rw [put_rng h]
  refine List.map_congr_left fun j _ => ?_
  simp only [setR]
  split <;> rfl
theorem rows_len {rw : Rows} : (rowsT rw).length = 8 := by simp [rowsT]
abbrev cacheF (pd rd : Addr) (w : Nat) : List (Str × T) := [("place_of", .ref pd), ("room", .int (w : Int)), ("rows", .ref rd)]
/-- a cache as it stands -/
structure Cst (CP : Addr) (G : Gp) (x pd rd : Addr) (ls : Lay) (w : Nat) (rw : Rows) : Prop where
  hx : G x = some (.ins CP (cacheF pd rd w))
  hp : G pd = some (.dic (layT ls))
  hr : G rd = some (.dic (rowsT rw))
  small : ∀ i, (rw i).length ≤ 1000
  sets : ∀ s i, ls.lookup s = some i → i < 8
theorem lookF1 {pd rd : Addr} {w : Nat} : List.lookup ("place_of" : Str) (cacheF pd rd w) = some (.ref pd) := rfl
theorem lookF2 {pd rd : Addr} {w : Nat} : List.lookup ("room" : Str) (cacheF pd rd w) = some (.int (w : Int)) := rfl
theorem lookF3 {pd rd : Addr} {w : Nat} : List.lookup ("rows" : Str) (cacheF pd rd w) = some (.ref rd) := rfl
def notT (b : Str) : T → Bool
  | .str s => decide (s ≠ b)
  | _ => false
def spTouch (CP : Addr) : Sp2 := fun ts G Φ _ => ∃ x b pd rd ls w rw i, ts = [.ref x, .str b] ∧ Cst CP G x pd rd ls w rw ∧ ls.lookup b = some i ∧ Φ (.bl (decide (b ∈ rw i))) (gup G rd (.dic (rowsT (setR rw i (touchL b w (rw i))))))
theorem sc_Cache_touch : FnScope ["self", "block", "index", "row", "one"] ["self", "block"] (defScope (inClass (top 19) 4)) := ⟨rfl, rfl, rfl, by decide +kernel, rfl, by decide +kernel, by decide +kernel⟩
theorem kn_Cache_touch (V : Env K mg CP) : KnM P w K mg base 2 CP "touch" (spTouch CP) [] := by
  refine knM_of V.c_Cache V.d_Cache_touch sc_Cache_touch (by rintro ts G Φ ΦE ⟨x, b, pd, rd, ls, w, rw, i, rfl, _⟩; rfl) fun f cdv A outer s H E ts G Φ ΦE hr ho hsp => ⟨_, (es_cons (s_expr (e_kn (kn_need_block V) (hr.mono (by decide)) (ea_cons (e_fld (e_var 0) V.c_Cache V.n_Cache_place_of) (ea_cons (e_var 1) ea_nil)))) (es_cons (s_set (j := 2) sc_Cache_touch.nd rfl (by first | exact .inl rfl | exact .inr rfl) (e_ix hr.u1 (e_fld (e_var 0) V.c_Cache V.n_Cache_place_of) (e_var 1) (fun _ _ => rfl))) (es_cons (s_set (j := 3) sc_Cache_touch.nd rfl (by first | exact .inl rfl | exact .inr rfl) (e_ix hr.u1 (e_fld (e_var 0) V.c_Cache V.n_Cache_rows) (e_var 2) (fun _ _ => rfl))) (es_cons (s_store hr.u1 (e_fld (e_var 0) V.c_Cache V.n_Cache_rows) (e_var 2) (e_slice (e_bin o_add (e_tup (ea_cons (e_var 1) ea_nil)) (b_tupleE V.b_tuple (ea_cons (e_lc [("one", 4)] sc_Cache_touch.nd (i_val (e_var 3)) (fun _ _ _ _ _ => (g_name (j := 4) sc_Cache_touch.nd rfl (by first | exact .inl rfl | exact .inr rfl))) (fun _ _ _ _ _ => (ts_one (et_cmp (o_ne hr.u64) (e_var 4) (e_var 1)))) (fun _ _ _ _ _ => (e_var 4))) ea_nil))) eo_none (eo_some (e_fld (e_var 0) V.c_Cache V.n_Cache_room)))) (es_one (s_ret (e_cmp (o_in hr.u65) (e_var 1) (e_var 3)))))))), ?_⟩
  obtain ⟨x, b, pd, rd, ls, w, rw, i, rfl, hc, hi, q⟩ := hsp
  have hi8 := hc.sets _ _ hi
  have hz : ∀ m : Nat, m ≤ 20000 → m ≤ sizeLine := fun m h => by rw [sizeLine_eq]; omega
  have hsm := hc.small i
  show lSeq _ _ _ [some (.ref x), some (.str b), none, none, none] _
  refine sq1 (S1 := [some (.ref x), some (.str b), none, none, none]) (G1 := G) (fun R hR => ?_) ?_
  · simp only [lIfS, lAnd, lOr, lNot, lB, lOp, lVar, lC, lCons, lNil, lTup, lLst, lUn, lCB, lAsg, gN, lSet, lRet, lRetN, lDrop, lNext, lIf, lBM, lFor, lLc, lDc, lIt, lRg1, lRg2, lEnum, lZip, lMeth, lCall, lProp, lFld, lFldS, lGlob, lIsi2, lChain, lSl, lSome, lNo, lAndV, lOrV, lNotV, lPar, lPar3, lMake, lDisp, lPCons, lPNil, lYes, lPTup, lUnP, lPIx, unP, gT, gCons2, gNil2, slotsOf_nil, slotsOf_cons, wipe2, sl, List.set, List.append_nil]
    simp only [hc.hx, lookF1, true_and]
    exact ⟨pd, layT ls, b, rfl, hc.hp, by rw [look_lay, hi]; rfl, hR _ (Sub.refl _)⟩
  refine sq1 (S1 := [some (.ref x), some (.str b), some (.int (i : Int)), none, none]) (G1 := G) (fun R hR => ?_) ?_
  · simp only [lIfS, lAnd, lOr, lNot, lB, lOp, lVar, lC, lCons, lNil, lTup, lLst, lUn, lCB, lAsg, gN, lSet, lRet, lRetN, lDrop, lNext, lIf, lBM, lFor, lLc, lDc, lIt, lRg1, lRg2, lEnum, lZip, lMeth, lCall, lProp, lFld, lFldS, lGlob, lIsi2, lChain, lSl, lSome, lNo, lAndV, lOrV, lNotV, lPar, lPar3, lMake, lDisp, lPCons, lPNil, lYes, lPTup, lUnP, lPIx, unP, gT, gCons2, gNil2, slotsOf_nil, slotsOf_cons, wipe2, sl, List.set, List.append_nil]
    simp only [hc.hx, lookF1, true_and]
    exact ixT_dicI hc.hp (by rw [look_lay, hi]; rfl) (hR _ (Sub.refl _))
  refine sq1 (S1 := [some (.ref x), some (.str b), some (.int (i : Int)), some (.tup ((rw i).map T.str)), none]) (G1 := G) (fun R hR => ?_) ?_
  · simp only [lIfS, lAnd, lOr, lNot, lB, lOp, lVar, lC, lCons, lNil, lTup, lLst, lUn, lCB, lAsg, gN, lSet, lRet, lRetN, lDrop, lNext, lIf, lBM, lFor, lLc, lDc, lIt, lRg1, lRg2, lEnum, lZip, lMeth, lCall, lProp, lFld, lFldS, lGlob, lIsi2, lChain, lSl, lSome, lNo, lAndV, lOrV, lNotV, lPar, lPar3, lMake, lDisp, lPCons, lPNil, lYes, lPTup, lUnP, lPIx, unP, gT, gCons2, gNil2, slotsOf_nil, slotsOf_cons, wipe2, sl, List.set, List.append_nil]
    simp only [hc.hx, lookF3, true_and]
    exact ixT_dicI hc.hr (look_rows hi8) (hR _ (Sub.refl _))
  refine sq1 (S1 := [some (.ref x), some (.str b), some (.int (i : Int)), some (.tup ((rw i).map T.str)), none]) (G1 := gup G rd (.dic (rowsT (setR rw i (touchL b w (rw i)))))) (fun R hR => ?_) ?_
  · simp only [lSet, lIfS, lAnd, lOr, lNot, lB, lOp, lVar, lC, lCons, lNil, lTup, lLst, lUn, lCB, lAsg, gN, lSet, lRet, lRetN, lDrop, lNext, lIf, lBM, lFor, lLc, lDc, lIt, lRg1, lRg2, lEnum, lZip, lMeth, lCall, lProp, lFld, lFldS, lGlob, lIsi2, lChain, lSl, lSome, lNo, lAndV, lOrV, lNotV, lPar, lPar3, lMake, lDisp, lPCons, lPNil, lYes, lPTup, lUnP, lPIx, unP, gT, gCons2, gNil2, slotsOf_nil, slotsOf_cons, wipe2, sl, List.set, List.append_nil]
    refine ⟨hz 1 (by decide), ?_⟩
    simp only [itT]
    refine lc_pure (notT b) id trivial (by rw [List.length_map]; exact hz _ (by omega)) (fun t ht => ?_) ?_
    · obtain ⟨s, hs, rfl⟩ := List.mem_map.mp ht
      refine ⟨_, rfl, fun Φ h => ?_, fun _ G' sb Φ h => ?_⟩
      · simp only [lIfS, lAnd, lOr, lNot, lB, lOp, lVar, lC, lCons, lNil, lTup, lLst, lUn, lCB, lAsg, gN, lSet, lRet, lRetN, lDrop, lNext, lIf, lBM, lFor, lLc, lDc, lIt, lRg1, lRg2, lEnum, lZip, lMeth, lCall, lProp, lFld, lFldS, lGlob, lIsi2, lChain, lSl, lSome, lNo, lAndV, lOrV, lNotV, lPar, lPar3, lMake, lDisp, lPCons, lPNil, lYes, lPTup, lUnP, lPIx, unP, gT, gCons2, gNil2, slotsOf_nil, slotsOf_cons, wipe2, sl, List.set, List.append_nil]
        refine neT_scal rfl ?_
        have hh := h _ (Sub.refl _)
        simp only [notT] at hh
        simpa using hh
      · simp only [lIfS, lAnd, lOr, lNot, lB, lOp, lVar, lC, lCons, lNil, lTup, lLst, lUn, lCB, lAsg, gN, lSet, lRet, lRetN, lDrop, lNext, lIf, lBM, lFor, lLc, lDc, lIt, lRg1, lRg2, lEnum, lZip, lMeth, lCall, lProp, lFld, lFldS, lGlob, lIsi2, lChain, lSl, lSome, lNo, lAndV, lOrV, lNotV, lPar, lPar3, lMake, lDisp, lPCons, lPNil, lYes, lPTup, lUnP, lPIx, unP, gT, gCons2, gNil2, slotsOf_nil, slotsOf_cons, wipe2, sl, List.set, List.append_nil]
        exact h _ (Sub.refl _)
    · intro p hp
      have e1 : (((rw i).map T.str).filter (notT b)).map id = ((rw i).filter fun o => decide (o ≠ b)).map T.str := by rw [List.map_id, List.filter_map]; rfl
      rw [e1] at *
      have hfl : ((rw i).filter fun o => decide (o ≠ b)).length ≤ 1000 := Nat.le_trans (List.length_filter_le _ _) hsm
      simp only [tupCT, gup_same, addT]
      refine ⟨by rw [List.length_map]; exact hz _ (by rw [List.length_singleton]; omega), ?_⟩
      have hx2 := Sub.gup (o := .lst (((rw i).filter fun o => decide (o ≠ b)).map T.str)) hp _ _ hc.hx
      simp only [hx2, lookF2, lookF3, true_and, slT]
      have e2 : cut ([T.str b] ++ ((rw i).filter fun o => decide (o ≠ b)).map T.str) none (some (w : Int)) = (touchL b w (rw i)).map T.str := by
        rw [cut_to]; simp [touchL, List.map_take]
      rw [e2]
      refine setT_dicI (Sub.gup hp _ _ hc.hr) (by rw [rows_len, sizeLine_eq]; decide) ?_
      rw [put_rows hi8]
      exact hR _ (Sub.gup hp).gup2
  · simp only [lIfS, lAnd, lOr, lNot, lB, lOp, lVar, lC, lCons, lNil, lTup, lLst, lUn, lCB, lAsg, gN, lSet, lRet, lRetN, lDrop, lNext, lIf, lBM, lFor, lLc, lDc, lIt, lRg1, lRg2, lEnum, lZip, lMeth, lCall, lProp, lFld, lFldS, lGlob, lIsi2, lChain, lSl, lSome, lNo, lAndV, lOrV, lNotV, lPar, lPar3, lMake, lDisp, lPCons, lPNil, lYes, lPTup, lUnP, lPIx, unP, gT, gCons2, gNil2, slotsOf_nil, slotsOf_cons, wipe2, sl, List.set, List.append_nil]
    refine ⟨rw i, rfl, ?_⟩
    exact rtF.of q

end K16
namespace K16
open PySem PySem.Spec PyProof.Rows L2 Dv
variable {P : Program} {w : World} {K : Fr0} {mg : Str → Option Value} {base : Heap} {CP : Addr}
/-- what a cache is begun with: a list or a tuple of blocks -/
def StartT (G : Gp) (t : T) (bs : List Str) : Prop := (∃ a, t = .ref a ∧ G a = some (.lst (bs.map T.str))) ∨ t = .tup (bs.map T.str)
theorem StartT.up {G G' : Gp} {t : T} {bs : List Str} (s : Sub G G') (h : StartT G t bs) : StartT G' t bs := h.imp (fun ⟨a, e, h⟩ => ⟨a, e, s _ _ h⟩) id
theorem itT_start {G : Gp} {t : T} {bs : List Str} {Ψ : List T → (Gp → Prop) → Gp → Prop} (h : StartT G t bs) (q : ∀ Keep : Gp → Prop, (∀ G', StartT G' t bs → Keep G') → Ψ (bs.map T.str) Keep G) : itT t G Ψ := by
  rcases h with ⟨a, rfl, h⟩ | rfl
  · refine itT_lst h (q _ fun G' hg => ?_)
    rcases hg with ⟨a', e, hg⟩ | e
    · cases e; exact hg
    · cases e
  · simp only [itT]
    exact q _ fun _ _ => trivial
def stepR (ls : Lay) (w : Nat) (rw : Rows) (b : Str) : Rows := match ls.lookup b with
  | some i => setR rw i (touchL b w (rw i))
  | none => rw
def runR (ls : Lay) (w : Nat) (rw : Rows) (bs : List Str) : Rows := bs.foldl (stepR ls w) rw
theorem touchL_len {b : Str} {w : Nat} {l : List Str} (hw : w ≤ 8) : (touchL b w l).length ≤ 8 := by
  unfold touchL; rw [List.length_take]; omega
/-- the same layout, ascending -/
structure SortLay (ls ls' : Lay) : Prop where
  perm : (ls'.map (·.1)).Perm (ls.map (·.1))
  at_ : ∀ q ∈ ls', ls.lookup q.1 = some q.2
theorem lookup_none {ls : Lay} {s : Str} : s ∉ ls.map (·.1) → ls.lookup s = none := by
  induction ls with
  | nil => intro _; rfl
  | cons q r ih =>
    intro h
    simp only [List.map_cons, List.mem_cons, not_or] at h
    obtain ⟨n, i⟩ := q
    rw [List.lookup_cons, show (s == n) = false from beq_eq_false_iff_ne.mpr h.1]
    exact ih h.2
theorem SortLay.look {ls ls' : Lay} (hn : (ls.map (·.1)).Nodup) (h : SortLay ls ls') (s : Str) : ls'.lookup s = ls.lookup s := by
  have hn' : (ls'.map (·.1)).Nodup := h.perm.nodup_iff.mpr hn
  by_cases hs : s ∈ ls'.map (·.1)
  · obtain ⟨q, hq, rfl⟩ := List.mem_map.mp hs
    rw [lay_mem hn' hq, h.at_ q hq]
  · rw [lookup_none hs, lookup_none fun z => hs (h.perm.mem_iff.mpr z)]
theorem dput_lay {ls : Lay} {s : Str} {i : Nat} (h : s ∉ ls.map (·.1)) : dput (layT ls) (.str s) (.int (i : Int)) = layT (ls ++ [(s, i)]) := by
  unfold dput
  rw [if_neg]
  · simp [layT]
  · intro z
    rw [List.any_eq_true] at z
    obtain ⟨kv, h1, h2⟩ := z
    obtain ⟨q, hq, rfl⟩ := List.mem_map.mp h1
    have e : q.1 = s := by simpa using h2
    subst e
    exact h (List.mem_map.mpr ⟨q, hq, rfl⟩)
theorem dput_newT {t u : T} {kvs : List (T × T)} (h : t ∉ kvs.map (·.1)) : dput kvs t u = kvs ++ [(t, u)] := by
  unfold dput
  rw [if_neg]
  intro z
  rw [List.any_eq_true] at z
  obtain ⟨kv, h1, h2⟩ := z
  exact h (List.mem_map.mpr ⟨kv, h1, by simpa using h2⟩)
theorem rowsT_empty : rowsT (fun _ => []) = (List.range 8).map fun (i : Nat) => (T.int (i : Int), T.tup []) := rfl
def spCInit (CP : Addr) : Sp2 := fun ts G Φ _ => ∃ (x d : Addr) (wy : Nat) (st : T) (ls : Lay) (bs : List Str), ts = [.ref x, .ref d, .int (wy : Int), st] ∧ G x = some (.ins CP []) ∧ G d = some (.dic (layT ls)) ∧ GoodLay ls ∧ (1 ≤ wy ∧ wy ≤ 8) ∧ StartT G st bs ∧ (∀ b ∈ bs, (ls.lookup b).isSome = true) ∧
  ∀ G' pd rd ls', SubX x G G' → G pd = none → G rd = none → SortLay ls ls' → Cst CP G' x pd rd ls' wy (runR ls wy (fun _ => []) bs) → Φ .non G'
theorem sc_Cache___init__ : FnScope ["self", "layout", "ways", "start", "block", "index"] ["self", "layout", "ways", "start"] (defScope (inClass (top 19) 0)) := ⟨rfl, rfl, rfl, by decide +kernel, rfl, by decide +kernel, by decide +kernel⟩
theorem knp_Cache___init__ (V : Env K mg CP) : KnIK P w K mg base 5 "Cache" CP 2 "start" (spCInit CP) ∧ KnI P w K mg base 5 "Cache" CP (spCInit CP) [.tup []] := by
  refine knIK_of V.d_Cache_init sc_Cache___init__ (by rintro ts G Φ ΦE ⟨x, d, wy, st, ls, bs, rfl, _⟩; rfl) fun f cdv A outer s H E ts G Φ ΦE hr ho hsp => ⟨_, (es_cons (s_expr (e_kn (kn_need_layout V) (hr.mono (by decide)) (ea_cons (e_var 1) ea_nil))) (es_cons (s_expr (e_kn (kn_need_ways V) (hr.mono (by decide)) (ea_cons (e_var 2) ea_nil))) (es_cons (s_for (passes_of rfl) rfl (i_val (e_var 3)) (g_name (j := 4) sc_Cache___init__.nd rfl (by first | exact .inl rfl | exact .inr rfl)) (es_one (s_expr (e_kn (kn_need_block V) (hr.mono (by decide)) (ea_cons (e_var 1) (ea_cons (e_var 4) ea_nil)))))) (es_cons (s_fld (e_var 0) (e_dc [("block", 4)] sc_Cache___init__.nd (i_val (b_sortedE V.b_sorted (ea_cons (e_var 1) ea_nil))) (fun _ _ _ _ _ => (g_name (j := 4) sc_Cache___init__.nd rfl (by first | exact .inl rfl | exact .inr rfl))) (fun _ _ _ _ _ => ts_nil) (fun _ _ _ _ _ => (e_var 4)) (fun _ _ _ _ _ => (e_ix hr.u1 (e_var 1) (e_var 4) (fun _ _ => rfl)))) V.c_Cache V.n_Cache_place_of) (es_cons (s_fld (e_var 0) (e_var 2) V.c_Cache V.n_Cache_room) (es_cons (s_fld (e_var 0) (e_dc [("index", 5)] sc_Cache___init__.nd (i_rg1 rfl V.b_range (ea_cons (e_gInt V.g_MOST_SETS) ea_nil)) (fun _ _ _ _ _ => (g_name (j := 5) sc_Cache___init__.nd rfl (by first | exact .inl rfl | exact .inr rfl))) (fun _ _ _ _ _ => ts_nil) (fun _ _ _ _ _ => (e_var 5)) (fun _ _ _ _ _ => (e_tup ea_nil))) V.c_Cache V.n_Cache_rows) (es_one (s_for (passes_of rfl) rfl (i_val (e_var 3)) (g_name (j := 4) sc_Cache___init__.nd rfl (by first | exact .inl rfl | exact .inr rfl)) (es_one (s_expr (e_km (kn_Cache_touch V) (hr.mono (by decide)) (e_var 0) (ea_cons (e_var 4) ea_nil)))))))))))), ?_⟩
  obtain ⟨x, d, wy, st, ls, bs, rfl, hx, hd, hg, hw, hst, hbs, q⟩ := hsp
  have hz : ∀ m : Nat, m ≤ 20000 → m ≤ sizeLine := fun m h => by rw [sizeLine_eq]; omega
  have hdx : d ≠ x := fun z => by rw [z, hx] at hd; cases hd
  show lSeq _ _ _ [some (.ref x), some (.ref d), some (.int (wy : Int)), some st, none, none] _
  refine sq1 (S1 := [some (.ref x), some (.ref d), some (.int (wy : Int)), some st, none, none]) (G1 := G) (fun R hR => ?_) ?_
  · simp only [lIfS, lAnd, lOr, lNot, lB, lOp, lVar, lC, lCons, lNil, lTup, lLst, lUn, lCB, lAsg, gN, lSet, lRet, lRetN, lDrop, lNext, lIf, lBM, lFor, lLc, lDc, lIt, lRg1, lRg2, lEnum, lZip, lMeth, lCall, lProp, lFld, lFldS, lGlob, lIsi2, lChain, lSl, lSome, lNo, lAndV, lOrV, lNotV, lPar, lPar3, lMake, lDisp, lPCons, lPNil, lYes, lPTup, lUnP, lPIx, unP, gT, gCons2, gNil2, slotsOf_nil, slotsOf_cons, wipe2, sl, List.set, List.append_nil]
    exact ⟨d, ls, rfl, hd, hg, hR _ (Sub.refl _)⟩
  refine sq1 (S1 := [some (.ref x), some (.ref d), some (.int (wy : Int)), some st, none, none]) (G1 := G) (fun R hR => ?_) ?_
  · simp only [lIfS, lAnd, lOr, lNot, lB, lOp, lVar, lC, lCons, lNil, lTup, lLst, lUn, lCB, lAsg, gN, lSet, lRet, lRetN, lDrop, lNext, lIf, lBM, lFor, lLc, lDc, lIt, lRg1, lRg2, lEnum, lZip, lMeth, lCall, lProp, lFld, lFldS, lGlob, lIsi2, lChain, lSl, lSome, lNo, lAndV, lOrV, lNotV, lPar, lPar3, lMake, lDisp, lPCons, lPNil, lYes, lPTup, lUnP, lPIx, unP, gT, gCons2, gNil2, slotsOf_nil, slotsOf_cons, wipe2, sl, List.set, List.append_nil]
    exact ⟨_, rfl, by omega, by omega, hR _ (Sub.refl _)⟩
  refine sq (M := fun S' G' => ∃ t4, S' = [some (.ref x), some (.ref d), some (.int (wy : Int)), some st, t4, none] ∧ G' = G) ?_ (fun R hR => ?_)
  · rintro S' G' ⟨t4, rfl, rfl⟩
    refine sq (M := fun S' G2 => ∃ pd ls', G' pd = none ∧ SortLay ls ls' ∧ S' = [some (.ref x), some (.ref d), some (.int (wy : Int)), some st, t4, none] ∧ G2 = gup (gup G' pd (.dic (layT ls'))) x (.ins CP [("place_of", .ref pd)])) ?_ (fun R hR => ?_)
    · rintro S' G2 ⟨pd, ls', hpd, hsl, rfl, rfl⟩
      have hpx : pd ≠ x := fresh_ne hx hpd
      refine sq1 (S1 := [some (.ref x), some (.ref d), some (.int (wy : Int)), some st, t4, none]) (G1 := gup (gup G' pd (.dic (layT ls'))) x (.ins CP [("place_of", .ref pd), ("room", .int (wy : Int))])) (fun R hR => ?_) ?_
      · simp only [lIfS, lAnd, lOr, lNot, lB, lOp, lVar, lC, lCons, lNil, lTup, lLst, lUn, lCB, lAsg, gN, lSet, lRet, lRetN, lDrop, lNext, lIf, lBM, lFor, lLc, lDc, lIt, lRg1, lRg2, lEnum, lZip, lMeth, lCall, lProp, lFld, lFldS, lGlob, lIsi2, lChain, lSl, lSome, lNo, lAndV, lOrV, lNotV, lPar, lPar3, lMake, lDisp, lPCons, lPNil, lYes, lPTup, lUnP, lPIx, unP, gT, gCons2, gNil2, slotsOf_nil, slotsOf_cons, wipe2, sl, List.set, List.append_nil]
        simp only [gup_same]
        refine ⟨trivial, (by decide : (1 : Nat) < 1000), ?_⟩
        rw [gup_gup]
        exact hR _ (Sub.refl _)
      refine sq (M := fun S' G2 => ∃ rd, G' rd = none ∧ rd ≠ pd ∧ S' = [some (.ref x), some (.ref d), some (.int (wy : Int)), some st, t4, none] ∧ G2 = gup (gup (gup G' pd (.dic (layT ls'))) rd (.dic (rowsT fun _ => []))) x (.ins CP (cacheF pd rd wy))) ?_ (fun R hR => ?_)
      · rintro S' G2 ⟨rd, hrd, hrp, rfl, rfl⟩
        have hrx : rd ≠ x := fresh_ne hx hrd
        have hgd := hg.nd
        have hlook : ∀ s, ls'.lookup s = ls.lookup s := hsl.look hgd
        have hsets : ∀ s i, ls'.lookup s = some i → i < 8 := fun s i h => by
          rw [hlook] at h
          have hm : s ∈ ls.map (·.1) := by
            by_cases hm : s ∈ ls.map (·.1)
            · exact hm
            · rw [lookup_none hm] at h; cases h
          obtain ⟨q0, hq0, rfl⟩ := List.mem_map.mp hm
          rw [lay_mem hgd hq0] at h
          cases h
          exact (hg.name q0 hq0).2.2
        have sx : ∀ rw : Rows, SubX x G' (gup (gup (gup G' pd (.dic (layT ls'))) rd (.dic (rowsT rw))) x (.ins CP (cacheF pd rd wy))) := fun rw b o hb e => by
          rw [gup_ne hb]
          have h1 : b ≠ rd := fun z => by rw [z, hrd] at e; cases e
          have h2 : b ≠ pd := fun z => by rw [z, hpd] at e; cases e
          rw [gup_ne h1, gup_ne h2]
          exact e
        have cst : ∀ rw : Rows, (∀ i, (rw i).length ≤ 1000) → Cst CP (gup (gup (gup G' pd (.dic (layT ls'))) rd (.dic (rowsT rw))) x (.ins CP (cacheF pd rd wy))) x pd rd ls' wy rw := fun rw h =>
          ⟨gup_same, by rw [gup_ne hpx, gup_ne hrp.symm, gup_same], by rw [gup_ne hrx, gup_same], h, hsets⟩
        have hstx : ∀ rw, StartT (gup (gup (gup G' pd (.dic (layT ls'))) rd (.dic (rowsT rw))) x (.ins CP (cacheF pd rd wy))) st bs := fun rw => hst.imp (fun ⟨a, e, h⟩ => ⟨a, e, sx rw a _ (fun z => by rw [z, hx] at h; cases h) h⟩) id
        simp only [lIfS, lAnd, lOr, lNot, lB, lOp, lVar, lC, lCons, lNil, lTup, lLst, lUn, lCB, lAsg, gN, lSet, lRet, lRetN, lDrop, lNext, lIf, lBM, lFor, lLc, lDc, lIt, lRg1, lRg2, lEnum, lZip, lMeth, lCall, lProp, lFld, lFldS, lGlob, lIsi2, lChain, lSl, lSome, lNo, lAndV, lOrV, lNotV, lPar, lPar3, lMake, lDisp, lPCons, lPNil, lYes, lPTup, lUnP, lPIx, unP, gT, gCons2, gNil2, slotsOf_nil, slotsOf_cons, wipe2, sl, List.set, List.append_nil]
        refine itT_start (hstx _) fun Keep hK => ?_
        refine forW_ind (I := fun r S2 G2 => ∃ t4 rw, S2 = [some (.ref x), some (.ref d), some (.int (wy : Int)), some st, t4, none] ∧ G2 = gup (gup (gup G' pd (.dic (layT ls'))) rd (.dic (rowsT rw))) x (.ins CP (cacheF pd rd wy)) ∧ (∀ i, (rw i).length ≤ 8) ∧ ∃ r', r = r'.map T.str ∧ (∀ b ∈ r', (ls.lookup b).isSome = true) ∧ runR ls wy rw r' = runR ls wy (fun _ => []) bs)
          (fun S2 G2 h => ?_) (fun t r S2 G2 h => ?_) _ _ _ ⟨t4, fun _ => [], rfl, rfl, fun _ => Nat.zero_le _, bs, rfl, hbs, rfl⟩
        · obtain ⟨t4, rw, rfl, rfl, hsm, r', er, _, hrun⟩ := h
          have er' : r' = [] := by simpa using er.symm
          subst er'
          have hrun : rw = runR ls wy (fun _ => []) bs := hrun
          subst hrun
          exact ⟨hK _ (hstx _), rtF.of (q _ pd rd ls' (sx _) hpd hrd hsl (cst _ fun i => Nat.le_trans (hsm i) (by decide)))⟩
        · obtain ⟨t4, rw, rfl, rfl, hsm, r', er, hr', hrun⟩ := h
          refine ⟨hK _ (hstx _), ?_⟩
          cases r' with
          | nil => cases er
          | cons b r' =>
            obtain ⟨rfl, rfl⟩ := List.cons.inj er
            refine ⟨_, rfl, fun R2 hR2 => ?_⟩
            simp only [lIfS, lAnd, lOr, lNot, lB, lOp, lVar, lC, lCons, lNil, lTup, lLst, lUn, lCB, lAsg, gN, lSet, lRet, lRetN, lDrop, lNext, lIf, lBM, lFor, lLc, lDc, lIt, lRg1, lRg2, lEnum, lZip, lMeth, lCall, lProp, lFld, lFldS, lGlob, lIsi2, lChain, lSl, lSome, lNo, lAndV, lOrV, lNotV, lPar, lPar3, lMake, lDisp, lPCons, lPNil, lYes, lPTup, lUnP, lPIx, unP, gT, gCons2, gNil2, slotsOf_nil, slotsOf_cons, wipe2, sl, List.set, List.append_nil]
            obtain ⟨i, hi⟩ := Option.isSome_iff_exists.mp (hr' b (by simp))
            simp only [gup_same]
            refine ⟨trivial, rfl, x, b, pd, rd, ls', wy, rw, i, rfl, cst rw (fun i => Nat.le_trans (hsm i) (by decide)), by rw [hlook]; exact hi, ?_⟩
            have e1 : gup (gup (gup (gup G' pd (.dic (layT ls'))) rd (.dic (rowsT rw))) x (.ins CP (cacheF pd rd wy))) rd (.dic (rowsT (setR rw i (touchL b wy (rw i))))) = gup (gup (gup G' pd (.dic (layT ls'))) rd (.dic (rowsT (setR rw i (touchL b wy (rw i)))))) x (.ins CP (cacheF pd rd wy)) := by
              rw [gup_comm hrx.symm, gup_gup]
            rw [e1]
            refine hR2 _ _ _ (Sub.refl _) ⟨_, _, rfl, rfl, fun j => ?_, r', rfl, fun c hc => hr' c (by simp [hc]), ?_⟩
            · simp only [setR]
              split
              · exact touchL_len hw.2
              · exact hsm j
            · rw [← hrun]
              show runR ls wy _ r' = runR ls wy (stepR ls wy rw b) r'
              simp only [stepR, hi]
      · simp only [lIfS, lAnd, lOr, lNot, lB, lOp, lVar, lC, lCons, lNil, lTup, lLst, lUn, lCB, lAsg, gN, lSet, lRet, lRetN, lDrop, lNext, lIf, lBM, lFor, lLc, lDc, lIt, lRg1, lRg2, lEnum, lZip, lMeth, lCall, lProp, lFld, lFldS, lGlob, lIsi2, lChain, lSl, lSome, lNo, lAndV, lOrV, lNotV, lPar, lPar3, lMake, lDisp, lPCons, lPNil, lYes, lPTup, lUnP, lPIx, unP, gT, gCons2, gNil2, slotsOf_nil, slotsOf_cons, wipe2, sl, List.set, List.append_nil]
        refine ⟨by decide, ?_⟩
        have e8 : (List.map (fun (i : Nat) => T.int (i : Int)) (List.range (Int.toNat 8))) = (List.range 8).map fun (i : Nat) => T.int (i : Int) := rfl
        rw [e8]
        refine dcW_ind (I := fun r acc G2 => G2 = gup (gup G' pd (.dic (layT ls'))) x (.ins CP [("place_of", .ref pd), ("room", .int (wy : Int))]) ∧ ∃ j, j ≤ 8 ∧ r = ((List.range 8).map fun (i : Nat) => T.int (i : Int)).drop j ∧ acc = (List.range j).map fun (i : Nat) => (T.int (i : Int), T.tup [])) (fun acc G2 h => ?_) (fun t r acc G2 h => ?_) _ _ _ ⟨rfl, 0, by decide, rfl, rfl⟩
        · obtain ⟨rfl, j, hj, er, rfl⟩ := h
          have : j = 8 := by have h1 := congrArg List.length er; simp at h1; omega
          subst this
          refine ⟨trivial, fun rd hrd => ?_⟩
          have hrx : rd ≠ x := fresh_ne gup_same hrd
          rw [gup_ne hrx] at hrd
          have hrp : rd ≠ pd := fresh_ne gup_same hrd
          rw [gup_ne hrp] at hrd
          simp only [gup_ne hrx.symm, gup_same]
          refine ⟨trivial, (by decide : (2 : Nat) < 1000), hR _ _ _ (Sub.refl _) ⟨rd, hrd, hrp, rfl, ?_⟩⟩
          rw [gup_comm hrx.symm, gup_gup]
          rfl
        · obtain ⟨rfl, j, hj, er, rfl⟩ := h
          have hj8 : j < 8 := by have h1 := congrArg List.length er; simp at h1; omega
          have ed : ((List.range 8).map fun (i : Nat) => T.int (i : Int)).drop j = .int (j : Int) :: ((List.range 8).map fun (i : Nat) => T.int (i : Int)).drop (j + 1) := by
            rw [List.drop_eq_getElem_cons (by simp; exact hj8)]
            congr 1
            simp
          rw [ed] at er
          obtain ⟨rfl, rfl⟩ := List.cons.inj er
          refine ⟨trivial, _, rfl, fun R2 hR2 => ?_⟩
          simp only [lIfS, lAnd, lOr, lNot, lB, lOp, lVar, lC, lCons, lNil, lTup, lLst, lUn, lCB, lAsg, gN, lSet, lRet, lRetN, lDrop, lNext, lIf, lBM, lFor, lLc, lDc, lIt, lRg1, lRg2, lEnum, lZip, lMeth, lCall, lProp, lFld, lFldS, lGlob, lIsi2, lChain, lSl, lSome, lNo, lAndV, lOrV, lNotV, lPar, lPar3, lMake, lDisp, lPCons, lPNil, lYes, lPTup, lUnP, lPIx, unP, gT, gCons2, gNil2, slotsOf_nil, slotsOf_cons, wipe2, sl, List.set, List.append_nil, if_true]
          refine ⟨Nat.zero_le _, by simp; exact Nat.lt_of_lt_of_le hj8 (by rw [sizeLine_eq]; decide), rfl, hR2 _ _ _ (Sub.refl _) ⟨rfl, j + 1, hj8, rfl, ?_⟩⟩
          have hn : T.int (j : Int) ∉ ((List.range j).map fun (i : Nat) => (T.int (i : Int), T.tup [])).map (·.1) := by
            intro z
            rw [List.map_map] at z
            obtain ⟨i, hi, e⟩ := List.mem_map.mp z
            have hi := List.mem_range.mp hi
            have e : (i : Int) = (j : Int) := by simpa using e
            omega
          rw [dput_newT hn, List.range_succ, List.map_append]
          rfl
    · simp only [lIfS, lAnd, lOr, lNot, lB, lOp, lVar, lC, lCons, lNil, lTup, lLst, lUn, lCB, lAsg, gN, lSet, lRet, lRetN, lDrop, lNext, lIf, lBM, lFor, lLc, lDc, lIt, lRg1, lRg2, lEnum, lZip, lMeth, lCall, lProp, lFld, lFldS, lGlob, lIsi2, lChain, lSl, lSome, lNo, lAndV, lOrV, lNotV, lPar, lPar3, lMake, lDisp, lPCons, lPNil, lYes, lPTup, lUnP, lPIx, unP, gT, gCons2, gNil2, slotsOf_nil, slotsOf_cons, wipe2, sl, List.set, List.append_nil]
      simp only [sortT, hd]
      have hk : (layT ls).map (·.1) = (ls.map (·.1)).map T.str := by simp [layT]
      refine ⟨ls.map (·.1), hk, by rw [List.length_map]; have := hg.len.2; omega, fun ys p hperm hsort hp => itT_lst gup_same ?_⟩
      have hpd : p ≠ d := fresh_ne hd hp
      have hpx : p ≠ x := fresh_ne hx hp
      refine dcW_ind (I := fun r acc G2 => G2 = gup G' p (.lst (ys.map T.str)) ∧ ∃ (pre : Lay) (r' : List Str), acc = layT pre ∧ r = r'.map T.str ∧ pre.map (·.1) ++ r' = ys ∧ ∀ q ∈ pre, ls.lookup q.1 = some q.2) (fun acc G2 h => ?_) (fun t r acc G2 h => ?_) _ _ _ ⟨rfl, [], ys, rfl, rfl, rfl, fun q hq => by cases hq⟩
      · obtain ⟨rfl, pre, r', rfl, er, ey, hat⟩ := h
        have er' : r' = [] := by simpa using er.symm
        subst er'
        rw [List.append_nil] at ey
        refine ⟨gup_same, fun pd hpd2 => ?_⟩
        have h1 : pd ≠ p := fresh_ne gup_same hpd2
        rw [gup_ne h1] at hpd2
        have h2 : pd ≠ x := fresh_ne hx hpd2
        simp only [show gup (gup G' p (.lst (ys.map T.str))) pd (.dic (layT pre)) x = some (.ins CP []) by rw [gup_ne h2.symm, gup_ne hpx.symm]; exact hx]
        refine ⟨trivial, by decide, hR _ _ _ ((Sub.gup hp).gup2).gup2 ⟨pd, pre, hpd2, ⟨by rw [ey]; exact hperm, hat⟩, rfl, rfl⟩⟩
      · obtain ⟨rfl, pre, r', rfl, er, ey, hat⟩ := h
        refine ⟨gup_same, ?_⟩
        cases r' with
        | nil => cases er
        | cons b r' =>
          obtain ⟨rfl, rfl⟩ := List.cons.inj er
          refine ⟨_, rfl, fun R2 hR2 => ?_⟩
          have hb : b ∈ ls.map (·.1) := hperm.subset (by rw [← ey]; simp)
          obtain ⟨q0, hq0, rfl⟩ := List.mem_map.mp hb
          have hl := lay_mem hg.nd hq0
          simp only [lIfS, lAnd, lOr, lNot, lB, lOp, lVar, lC, lCons, lNil, lTup, lLst, lUn, lCB, lAsg, gN, lSet, lRet, lRetN, lDrop, lNext, lIf, lBM, lFor, lLc, lDc, lIt, lRg1, lRg2, lEnum, lZip, lMeth, lCall, lProp, lFld, lFldS, lGlob, lIsi2, lChain, lSl, lSome, lNo, lAndV, lOrV, lNotV, lPar, lPar3, lMake, lDisp, lPCons, lPNil, lYes, lPTup, lUnP, lPIx, unP, gT, gCons2, gNil2, slotsOf_nil, slotsOf_cons, wipe2, sl, List.set, List.append_nil, if_true]
          refine ixT_dicI (by rw [gup_ne hpd.symm]; exact hd) (by rw [look_lay, hl]; rfl) ?_
          have hnew : q0.1 ∉ pre.map (·.1) := by
            have h1 : (pre.map (·.1) ++ q0.1 :: r').Nodup := by rw [ey]; exact hperm.nodup_iff.mpr hg.nd
            rw [List.nodup_append] at h1
            exact fun z => h1.2.2 q0.1 z q0.1 (by simp) rfl
          have hlen : pre.length + (r'.length + 1) = ls.length := by
            have h1 := congrArg List.length ey
            rw [hperm.length_eq, List.length_append, List.length_map, List.length_cons, List.length_map] at h1
            exact h1
          refine ⟨by simp only [layT, List.length_map]; rw [sizeLine_eq]; have := hg.len.2; omega, rfl, ?_⟩
          rw [dput_lay hnew]
          refine hR2 _ _ _ (Sub.refl _) ⟨rfl, pre ++ [(q0.1, q0.2)], r', rfl, rfl, by rw [← ey]; simp, fun q hq => ?_⟩
          rcases List.mem_append.mp hq with h | h
          · exact hat q h
          · rw [List.mem_singleton.mp h]; exact hl
  · simp only [lIfS, lAnd, lOr, lNot, lB, lOp, lVar, lC, lCons, lNil, lTup, lLst, lUn, lCB, lAsg, gN, lSet, lRet, lRetN, lDrop, lNext, lIf, lBM, lFor, lLc, lDc, lIt, lRg1, lRg2, lEnum, lZip, lMeth, lCall, lProp, lFld, lFldS, lGlob, lIsi2, lChain, lSl, lSome, lNo, lAndV, lOrV, lNotV, lPar, lPar3, lMake, lDisp, lPCons, lPNil, lYes, lPTup, lUnP, lPIx, unP, gT, gCons2, gNil2, slotsOf_nil, slotsOf_cons, wipe2, sl, List.set, List.append_nil]
    refine itT_start hst fun Keep hK => ?_
    refine forW_ind (I := fun r S2 G2 => ∃ t4, S2 = [some (.ref x), some (.ref d), some (.int (wy : Int)), some st, t4, none] ∧ G2 = G ∧ ∃ r', r = r'.map T.str ∧ ∀ b ∈ r', (ls.lookup b).isSome = true) (fun S2 G2 h => ?_) (fun t r S2 G2 h => ?_) _ _ _ ⟨none, rfl, rfl, bs, rfl, hbs⟩
    · obtain ⟨t4, rfl, rfl, _⟩ := h
      exact ⟨hK _ hst, hR _ _ _ (Sub.refl _) ⟨t4, rfl, rfl⟩⟩
    · obtain ⟨t4, rfl, rfl, r', er, hr'⟩ := h
      refine ⟨hK _ hst, ?_⟩
      cases r' with
      | nil => cases er
      | cons b r' =>
        obtain ⟨rfl, rfl⟩ := List.cons.inj er
        refine ⟨_, rfl, fun R2 hR2 => ?_⟩
        simp only [lIfS, lAnd, lOr, lNot, lB, lOp, lVar, lC, lCons, lNil, lTup, lLst, lUn, lCB, lAsg, gN, lSet, lRet, lRetN, lDrop, lNext, lIf, lBM, lFor, lLc, lDc, lIt, lRg1, lRg2, lEnum, lZip, lMeth, lCall, lProp, lFld, lFldS, lGlob, lIsi2, lChain, lSl, lSome, lNo, lAndV, lOrV, lNotV, lPar, lPar3, lMake, lDisp, lPCons, lPNil, lYes, lPTup, lUnP, lPIx, unP, gT, gCons2, gNil2, slotsOf_nil, slotsOf_cons, wipe2, sl, List.set, List.append_nil]
        obtain ⟨i, hi⟩ := Option.isSome_iff_exists.mp (hr' b (by simp))
        exact ⟨d, layT ls, b, rfl, hd, by rw [look_lay, hi]; rfl, hR2 _ _ _ (Sub.refl _) ⟨_, rfl, rfl, r', rfl, fun c hc => hr' c (by simp [hc])⟩⟩

end K16
namespace K16
open PySem PySem.Spec PyProof.Rows L2 Dv
variable {P : Program} {w : World} {K : Fr0} {mg : Str → Option Value} {base : Heap} {CP : Addr}
/-! ### distances_of -/
def rowsP (rw : Rows) : List (T × T) := (List.range 8).map fun (i : Nat) => (T.int (i : Int), T.ptup ((rw i).map T.str))
theorem look_rowsP {rw : Rows} {i : Nat} (h : i < 8) : dlook (rowsP rw) (.int (i : Int)) = some (.ptup ((rw i).map T.str)) := look_rng h
theorem put_rowsP {rw : Rows} {i : Nat} {l : List Str} (h : i < 8) : dput (rowsP rw) (.int (i : Int)) (.ptup (l.map T.str)) = rowsP (setR rw i l) := by
  unfold rowsP
  rw [put_rng h]
  refine List.map_congr_left fun j _ => ?_
  simp only [setR]
  split <;> rfl
def distOf (b : Str) (l : List Str) : T := if b ∈ l then .tup [.str "since", .int (l.idxOf b : Nat)] else .tup [.str "start", .int (l.length : Nat)]
def frontL (b : Str) (l : List Str) : List Str := b :: l.filter fun o => decide (o ≠ b)
def fullR (ls : Lay) (rw : Rows) (b : Str) : Rows := match ls.lookup b with
  | some i => setR rw i (frontL b (rw i))
  | none => rw
def distsL (ls : Lay) (rw : Rows) : List Str → List T
  | [] => []
  | b :: bs => (match ls.lookup b with
    | some i => distOf b (rw i)
    | none => .non) :: distsL ls (fullR ls rw b) bs
def spDist : Sp2 := fun ts G Φ _ => ∃ bt d ls bs, ts = [bt, .ref d] ∧ StartT G bt bs ∧ G d = some (.dic (layT ls)) ∧ GoodLay ls ∧ (∀ b ∈ bs, (ls.lookup b).isSome = true) ∧ bs.length ≤ 1000 ∧
  ∀ p G', Sub G G' → G p = none → G' p = some (.lst (distsL ls (fun _ => []) bs)) → Φ (.ref p) G'
theorem lay_lt {ls : Lay} (hg : GoodLay ls) {s : Str} {i : Nat} (h : ls.lookup s = some i) : i < 8 := by
  have hm : s ∈ ls.map (·.1) := by
    by_cases hm : s ∈ ls.map (·.1)
    · exact hm
    · rw [lookup_none hm] at h; cases h
  obtain ⟨q0, hq0, rfl⟩ := List.mem_map.mp hm
  rw [lay_mem hg.nd hq0] at h
  cases h
  exact (hg.name q0 hq0).2.2
theorem _root_.Dv.Sub.set {G G2 : Gp} {p : Addr} {o : O} (h : Sub G G2) (hp : G p = none) : Sub G (gup G2 p o) := fun b u e => by
  rw [gup_ne (fun z => by rw [z, hp] at e; cases e)]; exact h b u e
theorem _root_.Dv.Sub.fresh {G G2 : Gp} {p : Addr} (h : Sub G G2) (e : G2 p = none) : G p = none := by
  cases q : G p with
  | none => rfl
  | some o => rw [h p o q] at e; cases e
theorem sc_distances_of : FnScope ["blocks", "layout", "block", "rows", "found", "index", "row", "one"] ["blocks", "layout"] (defScope (top 20)) := ⟨rfl, rfl, rfl, by decide +kernel, rfl, by decide +kernel, by decide +kernel⟩
theorem kn_distances_of (V : Env K mg CP) : Kn P w K mg base 5 "distances_of" spDist [] := by
  refine kn_of V.d_distances_of sc_distances_of (by rintro ts G Φ ΦE ⟨bt, d, ls, bs, rfl, _⟩; rfl) fun f cdv A outer s H E ts G Φ ΦE hr ho hsp => ⟨_, (es_cons (s_expr (e_kn (kn_need_layout V) (hr.mono (by decide)) (ea_cons (e_var 1) ea_nil))) (es_cons (s_for (passes_of rfl) rfl (i_val (e_var 0)) (g_name (j := 2) sc_distances_of.nd rfl (by first | exact .inl rfl | exact .inr rfl)) (es_one (s_expr (e_kn (kn_need_block V) (hr.mono (by decide)) (ea_cons (e_var 1) (ea_cons (e_var 2) ea_nil)))))) (es_cons (s_par (j := 3) (k := 4) rfl sc_distances_of.nd rfl rfl (by decide) rfl rfl (ea_cons (e_dc [("index", 5)] sc_distances_of.nd (i_rg1 rfl V.b_range (ea_cons (e_gInt V.g_MOST_SETS) ea_nil)) (fun _ _ _ _ _ => (g_name (j := 5) sc_distances_of.nd rfl (by first | exact .inl rfl | exact .inr rfl))) (fun _ _ _ _ _ => ts_nil) (fun _ _ _ _ _ => (e_var 5)) (fun _ _ _ _ _ => (e_ptup ea_nil))) (ea_cons (e_lst ea_nil) ea_nil)) rfl) (es_cons (s_for (passes_of rfl) rfl (i_val (e_var 0)) (g_name (j := 2) sc_distances_of.nd rfl (by first | exact .inl rfl | exact .inr rfl)) (es_cons (s_set (j := 6) sc_distances_of.nd rfl (by first | exact .inl rfl | exact .inr rfl) (e_ix hr.u1 (e_var 3) (e_ix hr.u1 (e_var 1) (e_var 2) (fun _ _ => rfl)) (fun _ _ => rfl))) (es_cons (s_expr (e_append (e_var 4) (ea_cons (e_if (et_cmp (o_in hr.u65) (e_var 2) (e_unP (e_var 6))) (e_tup (ea_cons e_str (ea_cons (e_pindex (e_var 6) (e_var 2)) ea_nil))) (e_tup (ea_cons e_str (ea_cons (b_lenE V.b_len (ea_cons (e_unP (e_var 6)) ea_nil)) ea_nil)))) ea_nil))) (es_one (s_store hr.u1 (e_var 3) (e_ix hr.u1 (e_var 1) (e_var 2) (fun _ _ => rfl)) (e_bin o_addP (e_ptup (ea_cons (e_var 2) ea_nil)) (b_tupleE V.b_tuple (ea_cons (e_lc [("one", 7)] sc_distances_of.nd (i_val (e_unP (e_var 6))) (fun _ _ _ _ _ => (g_name (j := 7) sc_distances_of.nd rfl (by first | exact .inl rfl | exact .inr rfl))) (fun _ _ _ _ _ => (ts_one (et_cmp (o_ne hr.u64) (e_var 7) (e_var 2)))) (fun _ _ _ _ _ => (e_var 7))) ea_nil)))))))) (es_one (s_ret (e_var 4))))))), ?_⟩
  obtain ⟨bt, d, ls, bs, rfl, hst, hd, hg, hbs, hbl, q⟩ := hsp
  have hz : ∀ m : Nat, m ≤ 20000 → m ≤ sizeLine := fun m h => by rw [sizeLine_eq]; omega
  show lSeq _ _ _ [some bt, some (.ref d), none, none, none, none, none, none] _
  refine sq1 (S1 := [some bt, some (.ref d), none, none, none, none, none, none]) (G1 := G) (fun R hR => ?_) ?_
  · simp only [lIfS, lAnd, lOr, lNot, lB, lOp, lVar, lC, lCons, lNil, lTup, lLst, lUn, lCB, lAsg, gN, lSet, lRet, lRetN, lDrop, lNext, lIf, lBM, lFor, lLc, lDc, lIt, lRg1, lRg2, lEnum, lZip, lMeth, lCall, lProp, lFld, lFldS, lGlob, lIsi2, lChain, lSl, lSome, lNo, lAndV, lOrV, lNotV, lPar, lPar3, lMake, lDisp, lPCons, lPNil, lYes, lPTup, lUnP, lPIx, unP, gT, gCons2, gNil2, slotsOf_nil, slotsOf_cons, wipe2, sl, List.set, List.append_nil]
    exact ⟨d, ls, rfl, hd, hg, hR _ (Sub.refl _)⟩
  refine sq (M := fun S' G' => ∃ t2, S' = [some bt, some (.ref d), t2, none, none, none, none, none] ∧ G' = G) ?_ (fun R hR => ?_)
  · rintro S' G' ⟨t2, rfl, rfl⟩
    refine sq (M := fun S' G2 => ∃ r1 f1, G' r1 = none ∧ G' f1 = none ∧ f1 ≠ r1 ∧ S' = [some bt, some (.ref d), t2, some (.ref r1), some (.ref f1), none, none, none] ∧ G2 = gup (gup G' r1 (.dic (rowsP fun _ => []))) f1 (.lst [])) ?_ (fun R hR => ?_)
    · rintro S' G2 ⟨r1, f1, hr1, hf1, hfr, rfl, rfl⟩
      refine sq (M := fun S' G2 => ∃ t2 t6, S' = [some bt, some (.ref d), t2, some (.ref r1), some (.ref f1), none, t6, none] ∧ Sub G' G2 ∧ G2 f1 = some (.lst (distsL ls (fun _ => []) bs))) ?_ (fun R hR => ?_)
      · rintro S' G2 ⟨t2, t6, rfl, sb, gf⟩
        simp only [lIfS, lAnd, lOr, lNot, lB, lOp, lVar, lC, lCons, lNil, lTup, lLst, lUn, lCB, lAsg, gN, lSet, lRet, lRetN, lDrop, lNext, lIf, lBM, lFor, lLc, lDc, lIt, lRg1, lRg2, lEnum, lZip, lMeth, lCall, lProp, lFld, lFldS, lGlob, lIsi2, lChain, lSl, lSome, lNo, lAndV, lOrV, lNotV, lPar, lPar3, lMake, lDisp, lPCons, lPNil, lYes, lPTup, lUnP, lPIx, unP, gT, gCons2, gNil2, slotsOf_nil, slotsOf_cons, wipe2, sl, List.set, List.append_nil]
        exact rtF.of (q f1 G2 sb hf1 gf)
      · have sb0 : Sub G' (gup (gup G' r1 (.dic (rowsP fun _ => []))) f1 (.lst [])) := ((Sub.refl G').set hr1).set hf1
        simp only [lIfS, lAnd, lOr, lNot, lB, lOp, lVar, lC, lCons, lNil, lTup, lLst, lUn, lCB, lAsg, gN, lSet, lRet, lRetN, lDrop, lNext, lIf, lBM, lFor, lLc, lDc, lIt, lRg1, lRg2, lEnum, lZip, lMeth, lCall, lProp, lFld, lFldS, lGlob, lIsi2, lChain, lSl, lSome, lNo, lAndV, lOrV, lNotV, lPar, lPar3, lMake, lDisp, lPCons, lPNil, lYes, lPTup, lUnP, lPIx, unP, gT, gCons2, gNil2, slotsOf_nil, slotsOf_cons, wipe2, sl, List.set, List.append_nil]
        refine itT_start (hst.up sb0) fun Keep hK => ?_
        refine forW_ind (I := fun r S2 G2 => ∃ t2 t6 rw ds, S2 = [some bt, some (.ref d), t2, some (.ref r1), some (.ref f1), none, t6, none] ∧ Sub G' G2 ∧ G2 r1 = some (.dic (rowsP rw)) ∧ G2 f1 = some (.lst ds) ∧ (∀ i, (rw i).length ≤ ds.length) ∧ ∃ r', r = r'.map T.str ∧ (∀ b ∈ r', (ls.lookup b).isSome = true) ∧ ds ++ distsL ls rw r' = distsL ls (fun _ => []) bs ∧ ds.length + r'.length ≤ 1000)
          (fun S2 G2 h => ?_) (fun t r S2 G2 h => ?_) _ _ _ ⟨t2, none, fun _ => [], [], rfl, sb0, by rw [gup_ne hfr.symm, gup_same], gup_same, fun _ => Nat.zero_le _, bs, rfl, hbs, rfl, by simpa using hbl⟩
        · obtain ⟨t2, t6, rw, ds, rfl, sb, gr, gf, hsm, r', er, _, hds, _⟩ := h
          have er' : r' = [] := by simpa using er.symm
          subst er'
          simp only [distsL, List.append_nil] at hds
          subst hds
          exact ⟨hK _ (hst.up sb), hR _ _ _ (Sub.refl _) ⟨t2, t6, rfl, sb, gf⟩⟩
        · obtain ⟨t2, t6, rw, ds, rfl, sb, gr, gf, hsm, r', er, hr', hds, hl⟩ := h
          refine ⟨hK _ (hst.up sb), ?_⟩
          cases r' with
          | nil => cases er
          | cons b r' =>
            obtain ⟨rfl, rfl⟩ := List.cons.inj er
            refine ⟨_, rfl, fun R2 hR2 => ?_⟩
            obtain ⟨i, hi⟩ := Option.isSome_iff_exists.mp (hr' b (by simp))
            have hi8 := lay_lt hg hi
            have hdl : dlook (layT ls) (.str b) = some (.int (i : Int)) := by rw [look_lay, hi]; rfl
            have hsi := hsm i
            have hlen : ds.length + (r'.length + 1) ≤ 1000 := hl
            simp only [gN, List.set]
            refine sq1 (S1 := [some bt, some (.ref d), some (.str b), some (.ref r1), some (.ref f1), none, some (.ptup ((rw i).map T.str)), none]) (G1 := G2) (fun R3 hR3 => ?_) ?_
            · simp only [lIfS, lAnd, lOr, lNot, lB, lOp, lVar, lC, lCons, lNil, lTup, lLst, lUn, lCB, lAsg, gN, lSet, lRet, lRetN, lDrop, lNext, lIf, lBM, lFor, lLc, lDc, lIt, lRg1, lRg2, lEnum, lZip, lMeth, lCall, lProp, lFld, lFldS, lGlob, lIsi2, lChain, lSl, lSome, lNo, lAndV, lOrV, lNotV, lPar, lPar3, lMake, lDisp, lPCons, lPNil, lYes, lPTup, lUnP, lPIx, unP, gT, gCons2, gNil2, slotsOf_nil, slotsOf_cons, wipe2, sl, List.set, List.append_nil]
              exact ixT_dicI (sb _ _ hd) hdl (ixT_dicI gr (look_rowsP hi8) (hR3 _ (Sub.refl _)))
            refine sq1 (S1 := [some bt, some (.ref d), some (.str b), some (.ref r1), some (.ref f1), none, some (.ptup ((rw i).map T.str)), none]) (G1 := gup G2 f1 (.lst (ds ++ [distOf b (rw i)]))) (fun R3 hR3 => ?_) ?_
            · simp only [lIfS, lAnd, lOr, lNot, lB, lOp, lVar, lC, lCons, lNil, lTup, lLst, lUn, lCB, lAsg, gN, lSet, lRet, lRetN, lDrop, lNext, lIf, lBM, lFor, lLc, lDc, lIt, lRg1, lRg2, lEnum, lZip, lMeth, lCall, lProp, lFld, lFldS, lGlob, lIsi2, lChain, lSl, lSome, lNo, lAndV, lOrV, lNotV, lPar, lPar3, lMake, lDisp, lPCons, lPNil, lYes, lPTup, lUnP, lPIx, unP, gT, gCons2, gNil2, slotsOf_nil, slotsOf_cons, wipe2, sl, List.set, List.append_nil]
              refine ⟨tyT_lst gf, rw i, rfl, ?_⟩
              by_cases hb : b ∈ rw i
              · simp only [hb, decide_true, Bool.false_eq_true, if_false, if_true, tixT, strsT_of]
                refine ⟨trivial, hz 2 (by decide), appT_lstI gf (by rw [sizeLine_eq]; omega) ?_⟩
                have e : distOf b (rw i) = .tup [.str "since", .int ((rw i).idxOf b : Nat)] := by simp [distOf, hb]
                rw [← e]
                exact hR3 _ (Sub.refl _)
              · simp only [hb, decide_false, Bool.false_eq_true, if_false]
                refine lenT_tupI ⟨hz 2 (by decide), appT_lstI gf (by rw [sizeLine_eq]; omega) ?_⟩
                have e : distOf b (rw i) = .tup [.str "start", .int (((rw i).map T.str).length : Nat)] := by simp [distOf, hb]
                rw [← e]
                exact hR3 _ (Sub.refl _)
            · simp only [lSet, lIfS, lAnd, lOr, lNot, lB, lOp, lVar, lC, lCons, lNil, lTup, lLst, lUn, lCB, lAsg, gN, lSet, lRet, lRetN, lDrop, lNext, lIf, lBM, lFor, lLc, lDc, lIt, lRg1, lRg2, lEnum, lZip, lMeth, lCall, lProp, lFld, lFldS, lGlob, lIsi2, lChain, lSl, lSome, lNo, lAndV, lOrV, lNotV, lPar, lPar3, lMake, lDisp, lPCons, lPNil, lYes, lPTup, lUnP, lPIx, unP, gT, gCons2, gNil2, slotsOf_nil, slotsOf_cons, wipe2, sl, List.set, List.append_nil]
              refine ⟨hz 1 (by decide), ?_⟩
              simp only [itT]
              refine lc_pure (notT b) id trivial (by rw [List.length_map]; exact hz _ (by omega)) (fun t ht => ?_) ?_
              · obtain ⟨s, hs, rfl⟩ := List.mem_map.mp ht
                refine ⟨_, rfl, fun Φ h => ?_, fun _ G' sb Φ h => ?_⟩
                · simp only [lIfS, lAnd, lOr, lNot, lB, lOp, lVar, lC, lCons, lNil, lTup, lLst, lUn, lCB, lAsg, gN, lSet, lRet, lRetN, lDrop, lNext, lIf, lBM, lFor, lLc, lDc, lIt, lRg1, lRg2, lEnum, lZip, lMeth, lCall, lProp, lFld, lFldS, lGlob, lIsi2, lChain, lSl, lSome, lNo, lAndV, lOrV, lNotV, lPar, lPar3, lMake, lDisp, lPCons, lPNil, lYes, lPTup, lUnP, lPIx, unP, gT, gCons2, gNil2, slotsOf_nil, slotsOf_cons, wipe2, sl, List.set, List.append_nil]
                  refine neT_scal rfl ?_
                  have hh := h _ (Sub.refl _)
                  simp only [notT] at hh
                  simpa using hh
                · simp only [lIfS, lAnd, lOr, lNot, lB, lOp, lVar, lC, lCons, lNil, lTup, lLst, lUn, lCB, lAsg, gN, lSet, lRet, lRetN, lDrop, lNext, lIf, lBM, lFor, lLc, lDc, lIt, lRg1, lRg2, lEnum, lZip, lMeth, lCall, lProp, lFld, lFldS, lGlob, lIsi2, lChain, lSl, lSome, lNo, lAndV, lOrV, lNotV, lPar, lPar3, lMake, lDisp, lPCons, lPNil, lYes, lPTup, lUnP, lPIx, unP, gT, gCons2, gNil2, slotsOf_nil, slotsOf_cons, wipe2, sl, List.set, List.append_nil]
                  exact h _ (Sub.refl _)
              · intro p hp
                have e1 : (((rw i).map T.str).filter (notT b)).map id = ((rw i).filter fun o => decide (o ≠ b)).map T.str := by rw [List.map_id, List.filter_map]; rfl
                rw [e1] at *
                have hfl : ((rw i).filter fun o => decide (o ≠ b)).length ≤ (rw i).length := List.length_filter_le _ _
                simp only [tupCT, gup_same, addP]
                refine ⟨by simp, by rw [List.length_map]; exact hz _ (by rw [List.length_singleton]; omega), ?_⟩
                have hp1 : p ≠ f1 := fresh_ne gup_same hp
                have hp2 := hp
                rw [gup_ne hp1] at hp2
                have g3 : Sub G2 (gup (gup G2 f1 (.lst (ds ++ [distOf b (rw i)]))) p (.lst (((rw i).filter fun o => decide (o ≠ b)).map T.str))) → True := fun _ => trivial
                have hr3 : gup (gup G2 f1 (.lst (ds ++ [distOf b (rw i)]))) p (.lst (((rw i).filter fun o => decide (o ≠ b)).map T.str)) r1 = some (.dic (rowsP rw)) := by
                  rw [gup_ne (fresh_ne gr hp2).symm, gup_ne hfr.symm]; exact gr
                have hd3 : gup (gup G2 f1 (.lst (ds ++ [distOf b (rw i)]))) p (.lst (((rw i).filter fun o => decide (o ≠ b)).map T.str)) d = some (.dic (layT ls)) := ((sb.set hf1).set (sb.fresh hp2)) _ _ hd
                refine ixT_dicI hd3 hdl (setT_dicI hr3 (by rw [sizeLine_eq]; simp [rowsP]) ?_)
                have e2 : ([T.str b] ++ ((rw i).filter fun o => decide (o ≠ b)).map T.str) = (frontL b (rw i)).map T.str := by simp [frontL]
                rw [e2, put_rowsP hi8]
                refine hR2 _ _ _ (Sub.refl _) ⟨_, _, setR rw i (frontL b (rw i)), ds ++ [distOf b (rw i)], rfl, ((sb.set hf1).set (sb.fresh hp2)).set hr1, gup_same, ?_, fun j => ?_, r', rfl, fun c hc => hr' c (by simp [hc]), ?_, by simp; omega⟩
                · rw [gup_ne hfr, gup_ne hp1.symm, gup_same]
                · simp only [setR, List.length_append, List.length_singleton]
                  split
                  · simp only [frontL, List.length_cons]; omega
                  · have := hsm j; omega
                · rw [← hds]
                  simp only [distsL, hi, fullR, List.append_assoc, List.singleton_append]
    · simp only [lIfS, lAnd, lOr, lNot, lB, lOp, lVar, lC, lCons, lNil, lTup, lLst, lUn, lCB, lAsg, gN, lSet, lRet, lRetN, lDrop, lNext, lIf, lBM, lFor, lLc, lDc, lIt, lRg1, lRg2, lEnum, lZip, lMeth, lCall, lProp, lFld, lFldS, lGlob, lIsi2, lChain, lSl, lSome, lNo, lAndV, lOrV, lNotV, lPar, lPar3, lMake, lDisp, lPCons, lPNil, lYes, lPTup, lUnP, lPIx, unP, gT, gCons2, gNil2, slotsOf_nil, slotsOf_cons, wipe2, sl, List.set, List.append_nil]
      refine ⟨by decide, ?_⟩
      have e8 : (List.map (fun (i : Nat) => T.int (i : Int)) (List.range (Int.toNat 8))) = (List.range 8).map fun (i : Nat) => T.int (i : Int) := rfl
      rw [e8]
      refine dcW_ind (I := fun r acc G2 => G2 = G' ∧ ∃ j, j ≤ 8 ∧ r = ((List.range 8).map fun (i : Nat) => T.int (i : Int)).drop j ∧ acc = (List.range j).map fun (i : Nat) => (T.int (i : Int), T.ptup [])) (fun acc G2 h => ?_) (fun t r acc G2 h => ?_) _ _ _ ⟨rfl, 0, by decide, rfl, rfl⟩
      · obtain ⟨rfl, j, hj, er, rfl⟩ := h
        have : j = 8 := by have h1 := congrArg List.length er; simp at h1; omega
        subst this
        refine ⟨trivial, fun r1 hr1 => ⟨Nat.zero_le _, fun f1 hf1 => ?_⟩⟩
        have hfr : f1 ≠ r1 := fresh_ne gup_same hf1
        rw [gup_ne hfr] at hf1
        exact hR _ _ _ (Sub.refl _) ⟨r1, f1, hr1, hf1, hfr, rfl, rfl⟩
      · obtain ⟨rfl, j, hj, er, rfl⟩ := h
        have hj8 : j < 8 := by have h1 := congrArg List.length er; simp at h1; omega
        have ed : ((List.range 8).map fun (i : Nat) => T.int (i : Int)).drop j = .int (j : Int) :: ((List.range 8).map fun (i : Nat) => T.int (i : Int)).drop (j + 1) := by
          rw [List.drop_eq_getElem_cons (by simp; exact hj8)]
          congr 1
          simp
        rw [ed] at er
        obtain ⟨rfl, rfl⟩ := List.cons.inj er
        refine ⟨trivial, _, rfl, fun R2 hR2 => ?_⟩
        simp only [lIfS, lAnd, lOr, lNot, lB, lOp, lVar, lC, lCons, lNil, lTup, lLst, lUn, lCB, lAsg, gN, lSet, lRet, lRetN, lDrop, lNext, lIf, lBM, lFor, lLc, lDc, lIt, lRg1, lRg2, lEnum, lZip, lMeth, lCall, lProp, lFld, lFldS, lGlob, lIsi2, lChain, lSl, lSome, lNo, lAndV, lOrV, lNotV, lPar, lPar3, lMake, lDisp, lPCons, lPNil, lYes, lPTup, lUnP, lPIx, unP, gT, gCons2, gNil2, slotsOf_nil, slotsOf_cons, wipe2, sl, List.set, List.append_nil, if_true]
        refine ⟨Nat.zero_le _, by simp; exact Nat.lt_of_lt_of_le hj8 (by rw [sizeLine_eq]; decide), rfl, hR2 _ _ _ (Sub.refl _) ⟨rfl, j + 1, hj8, rfl, ?_⟩⟩
        have hn : T.int (j : Int) ∉ ((List.range j).map fun (i : Nat) => (T.int (i : Int), T.ptup [])).map (·.1) := by
          intro z
          rw [List.map_map] at z
          obtain ⟨i, hi, e⟩ := List.mem_map.mp z
          have hi := List.mem_range.mp hi
          have e : (i : Int) = (j : Int) := by simpa using e
          omega
        rw [dput_newT hn, List.range_succ, List.map_append]
        rfl
  · simp only [lIfS, lAnd, lOr, lNot, lB, lOp, lVar, lC, lCons, lNil, lTup, lLst, lUn, lCB, lAsg, gN, lSet, lRet, lRetN, lDrop, lNext, lIf, lBM, lFor, lLc, lDc, lIt, lRg1, lRg2, lEnum, lZip, lMeth, lCall, lProp, lFld, lFldS, lGlob, lIsi2, lChain, lSl, lSome, lNo, lAndV, lOrV, lNotV, lPar, lPar3, lMake, lDisp, lPCons, lPNil, lYes, lPTup, lUnP, lPIx, unP, gT, gCons2, gNil2, slotsOf_nil, slotsOf_cons, wipe2, sl, List.set, List.append_nil]
    refine itT_start hst fun Keep hK => ?_
    refine forW_ind (I := fun r S2 G2 => ∃ t2, S2 = [some bt, some (.ref d), t2, none, none, none, none, none] ∧ G2 = G ∧ ∃ r', r = r'.map T.str ∧ ∀ b ∈ r', (ls.lookup b).isSome = true) (fun S2 G2 h => ?_) (fun t r S2 G2 h => ?_) _ _ _ ⟨none, rfl, rfl, bs, rfl, hbs⟩
    · obtain ⟨t2, rfl, rfl, _⟩ := h
      exact ⟨hK _ hst, hR _ _ _ (Sub.refl _) ⟨t2, rfl, rfl⟩⟩
    · obtain ⟨t2, rfl, rfl, r', er, hr'⟩ := h
      refine ⟨hK _ hst, ?_⟩
      cases r' with
      | nil => cases er
      | cons b r' =>
        obtain ⟨rfl, rfl⟩ := List.cons.inj er
        refine ⟨_, rfl, fun R2 hR2 => ?_⟩
        simp only [lIfS, lAnd, lOr, lNot, lB, lOp, lVar, lC, lCons, lNil, lTup, lLst, lUn, lCB, lAsg, gN, lSet, lRet, lRetN, lDrop, lNext, lIf, lBM, lFor, lLc, lDc, lIt, lRg1, lRg2, lEnum, lZip, lMeth, lCall, lProp, lFld, lFldS, lGlob, lIsi2, lChain, lSl, lSome, lNo, lAndV, lOrV, lNotV, lPar, lPar3, lMake, lDisp, lPCons, lPNil, lYes, lPTup, lUnP, lPIx, unP, gT, gCons2, gNil2, slotsOf_nil, slotsOf_cons, wipe2, sl, List.set, List.append_nil]
        obtain ⟨i, hi⟩ := Option.isSome_iff_exists.mp (hr' b (by simp))
        exact ⟨d, layT ls, b, rfl, hd, by rw [look_lay, hi]; rfl, hR2 _ _ _ (Sub.refl _) ⟨_, rfl, rfl, r', rfl, fun c hc => hr' c (by simp [hc])⟩⟩

end K16
namespace K16
open PySem PySem.Spec PyProof.Rows L2 Dv
variable {P : Program} {w : World} {K : Fr0} {mg : Str → Option Value} {base : Heap} {CP : Addr}
theorem knK_Cache___init__ (V : Env K mg CP) : KnIK P w K mg base 5 "Cache" CP 2 "start" (spCInit CP) := (knp_Cache___init__ V).1
/-! ### hits_of -/
def hitsL (ls : Lay) (w : Nat) (rw : Rows) : List Str → List Bool
  | [] => []
  | b :: bs => (match ls.lookup b with
    | some i => decide (b ∈ rw i)
    | none => false) :: hitsL ls w (stepR ls w rw b) bs
def spHits (CP : Addr) : Sp2 := fun ts G Φ _ => ∃ (bt : T) (d : Addr) (wy : Nat) (st : T) (ls : Lay) (bs ss : List Str), ts = [bt, .ref d, .int (wy : Int), st] ∧ StartT G bt bs ∧ StartT G st ss ∧ G d = some (.dic (layT ls)) ∧ GoodLay ls ∧ (1 ≤ wy ∧ wy ≤ 8) ∧ (∀ b ∈ bs, (ls.lookup b).isSome = true) ∧ (∀ b ∈ ss, (ls.lookup b).isSome = true) ∧ bs.length ≤ 1000 ∧
  ∀ p G', Sub G G' → G p = none → G' p = some (.lst ((hitsL ls wy (runR ls wy (fun _ => []) ss) bs).map T.bl)) → Φ (.ref p) G'
theorem runR_len {ls : Lay} {w : Nat} (hw : w ≤ 8) : ∀ (bs : List Str) (rw : Rows), (∀ i, (rw i).length ≤ 8) → ∀ i, (runR ls w rw bs i).length ≤ 8
  | [], rw, h, i => h i
  | b :: bs, rw, h, i => by
    refine runR_len hw bs (stepR ls w rw b) (fun j => ?_) i
    unfold stepR
    cases ls.lookup b with
    | some i =>
      simp only [setR]
      split
      · exact touchL_len hw
      · exact h j
    | none => exact h j
theorem lay_rows {ls : Lay} {rw : Rows} : layT ls ≠ rowsT rw := by
  intro e
  have e2 : rowsT rw = (T.int 0, T.tup ((rw 0).map T.str)) :: ((List.range 8).map fun (i : Nat) => (T.int (i : Int), T.tup ((rw i).map T.str))).tail := rfl
  rw [e2] at e
  cases ls with
  | nil => cases e
  | cons q l =>
    simp only [layT, List.map_cons, List.cons.injEq, Prod.mk.injEq, reduceCtorEq, false_and] at e
theorem sc_hits_of : FnScope ["blocks", "layout", "ways", "start", "block", "cache"] ["blocks", "layout", "ways", "start"] (defScope (top 21)) := ⟨rfl, rfl, rfl, by decide +kernel, rfl, by decide +kernel, by decide +kernel⟩
theorem knp_hits_of (V : Env K mg CP) : KnK P w K mg base 7 "hits_of" 3 "start" (spHits CP) ∧ Kn P w K mg base 7 "hits_of" (spHits CP) [.tup []] := by
  refine knK_of V.d_hits_of sc_hits_of (by rintro ts G Φ ΦE ⟨bt, d, wy, st, ls, bs, ss, rfl, _⟩; rfl) fun f cdv A outer s H E ts G Φ ΦE hr ho hsp => ⟨_, (es_cons (s_expr (e_kn (kn_need_layout V) (hr.mono (by decide)) (ea_cons (e_var 1) ea_nil))) (es_cons (s_expr (e_kn (kn_need_ways V) (hr.mono (by decide)) (ea_cons (e_var 2) ea_nil))) (es_cons (s_for (passes_of rfl) rfl (i_val (e_var 0)) (g_name (j := 4) sc_hits_of.nd rfl (by first | exact .inl rfl | exact .inr rfl)) (es_one (s_expr (e_kn (kn_need_block V) (hr.mono (by decide)) (ea_cons (e_var 1) (ea_cons (e_var 4) ea_nil)))))) (es_cons (s_set (j := 5) sc_hits_of.nd rfl (by first | exact .inl rfl | exact .inr rfl) (e_kiK (knK_Cache___init__ V) (hr.mono (by decide)) (ea_cons (e_var 1) (ea_cons (e_var 2) ea_nil)) (k_cons (e_var 3) k_nil))) (es_one (s_ret (e_lc [("block", 4)] sc_hits_of.nd (i_val (e_var 0)) (fun _ _ _ _ _ => (g_name (j := 4) sc_hits_of.nd rfl (by first | exact .inl rfl | exact .inr rfl))) (fun _ _ _ _ _ => ts_nil) (fun _ _ _ _ _ => (e_km (kn_Cache_touch V) (hr.mono (by decide)) (e_var 5) (ea_cons (e_var 4) ea_nil)))))))))), ?_⟩
  obtain ⟨bt, d, wy, st, ls, bs, ss, rfl, hbt, hst, hd, hg, hw, hbs, hss, hbl, q⟩ := hsp
  have hz : ∀ m : Nat, m ≤ 20000 → m ≤ sizeLine := fun m h => by rw [sizeLine_eq]; omega
  show lSeq _ _ _ [some bt, some (.ref d), some (.int (wy : Int)), some st, none, none] _
  refine sq1 (S1 := [some bt, some (.ref d), some (.int (wy : Int)), some st, none, none]) (G1 := G) (fun R hR => ?_) ?_
  · simp only [lIfS, lAnd, lOr, lNot, lB, lOp, lVar, lC, lCons, lNil, lTup, lLst, lUn, lCB, lAsg, gN, lSet, lRet, lRetN, lDrop, lNext, lIf, lBM, lFor, lLc, lDc, lIt, lRg1, lRg2, lEnum, lZip, lMeth, lCall, lProp, lFld, lFldS, lGlob, lIsi2, lChain, lSl, lSome, lNo, lAndV, lOrV, lNotV, lPar, lPar3, lMake, lDisp, lPCons, lPNil, lYes, lPTup, lUnP, lPIx, unP, gT, gCons2, gNil2, slotsOf_nil, slotsOf_cons, wipe2, sl, List.set, List.append_nil]
    exact ⟨d, ls, rfl, hd, hg, hR _ (Sub.refl _)⟩
  refine sq1 (S1 := [some bt, some (.ref d), some (.int (wy : Int)), some st, none, none]) (G1 := G) (fun R hR => ?_) ?_
  · simp only [lIfS, lAnd, lOr, lNot, lB, lOp, lVar, lC, lCons, lNil, lTup, lLst, lUn, lCB, lAsg, gN, lSet, lRet, lRetN, lDrop, lNext, lIf, lBM, lFor, lLc, lDc, lIt, lRg1, lRg2, lEnum, lZip, lMeth, lCall, lProp, lFld, lFldS, lGlob, lIsi2, lChain, lSl, lSome, lNo, lAndV, lOrV, lNotV, lPar, lPar3, lMake, lDisp, lPCons, lPNil, lYes, lPTup, lUnP, lPIx, unP, gT, gCons2, gNil2, slotsOf_nil, slotsOf_cons, wipe2, sl, List.set, List.append_nil]
    exact ⟨_, rfl, by omega, by omega, hR _ (Sub.refl _)⟩
  refine sq (M := fun S' G' => ∃ t4, S' = [some bt, some (.ref d), some (.int (wy : Int)), some st, t4, none] ∧ G' = G) ?_ (fun R hR => ?_)
  · rintro S' G' ⟨t4, rfl, rfl⟩
    refine sq (M := fun S' G2 => ∃ x pd rd ls', S' = [some bt, some (.ref d), some (.int (wy : Int)), some st, t4, some (.ref x)] ∧ Sub G' G2 ∧ G' x = none ∧ G' pd = none ∧ G' rd = none ∧ (∀ s, ls'.lookup s = ls.lookup s) ∧ Cst CP G2 x pd rd ls' wy (runR ls wy (fun _ => []) ss)) ?_ (fun R hR => ?_)
    · rintro S' G2 ⟨x, pd, rd, ls', rfl, sb, hx0, hp0, hr0, hlk, hc⟩
      simp only [lIfS, lAnd, lOr, lNot, lB, lOp, lVar, lC, lCons, lNil, lTup, lLst, lUn, lCB, lAsg, gN, lSet, lRet, lRetN, lDrop, lNext, lIf, lBM, lFor, lLc, lDc, lIt, lRg1, lRg2, lEnum, lZip, lMeth, lCall, lProp, lFld, lFldS, lGlob, lIsi2, lChain, lSl, lSome, lNo, lAndV, lOrV, lNotV, lPar, lPar3, lMake, lDisp, lPCons, lPNil, lYes, lPTup, lUnP, lPIx, unP, gT, gCons2, gNil2, slotsOf_nil, slotsOf_cons, wipe2, sl, List.set, List.append_nil]
      refine itT_start (hbt.up sb) fun Keep hK => ?_
      refine lcW_ind (I := fun r acc G3 => ∃ rw, Sub G' G3 ∧ Cst CP G3 x pd rd ls' wy rw ∧ (∀ i, (rw i).length ≤ 8) ∧ ∃ r', r = r'.map T.str ∧ (∀ b ∈ r', (ls.lookup b).isSome = true) ∧ acc ++ (hitsL ls wy rw r').map T.bl = (hitsL ls wy (runR ls wy (fun _ => []) ss) bs).map T.bl ∧ acc.length + r'.length ≤ 1000)
        (fun acc G3 h => ?_) (fun t r acc G3 h => ?_) _ _ _ ⟨_, sb, hc, runR_len hw.2 ss _ (fun _ => Nat.zero_le _), bs, rfl, hbs, rfl, by simpa using hbl⟩
      · obtain ⟨rw, sb3, _, _, r', er, _, hacc, _⟩ := h
        have er' : r' = [] := by simpa using er.symm
        subst er'
        simp only [hitsL, List.map_nil, List.append_nil] at hacc
        refine ⟨hK _ (hbt.up sb3), fun p hp => rtF.of (q p _ (sb3.trans (Sub.gup hp)) (sb3.fresh hp) (by rw [gup_same, hacc]))⟩
      · obtain ⟨rw, sb3, hc3, hsm, r', er, hr', hacc, hal⟩ := h
        refine ⟨hK _ (hbt.up sb3), ?_⟩
        cases r' with
        | nil => cases er
        | cons b r' =>
          obtain ⟨rfl, rfl⟩ := List.cons.inj er
          refine ⟨_, rfl, fun R2 hR2 => ?_⟩
          obtain ⟨i, hi⟩ := Option.isSome_iff_exists.mp (hr' b (by simp))
          simp only [lIfS, lAnd, lOr, lNot, lB, lOp, lVar, lC, lCons, lNil, lTup, lLst, lUn, lCB, lAsg, gN, lSet, lRet, lRetN, lDrop, lNext, lIf, lBM, lFor, lLc, lDc, lIt, lRg1, lRg2, lEnum, lZip, lMeth, lCall, lProp, lFld, lFldS, lGlob, lIsi2, lChain, lSl, lSome, lNo, lAndV, lOrV, lNotV, lPar, lPar3, lMake, lDisp, lPCons, lPNil, lYes, lPTup, lUnP, lPIx, unP, gT, gCons2, gNil2, slotsOf_nil, slotsOf_cons, wipe2, sl, List.set, List.append_nil, if_true]
          simp only [hc3.hx]
          refine ⟨trivial, rfl, x, b, pd, rd, ls', wy, rw, i, rfl, hc3, by rw [hlk]; exact hi, ?_⟩
          have hal' : acc.length + (r'.length + 1) ≤ 1000 := hal
          have hxr : x ≠ rd := fun z => by have := hc3.hx; rw [z, hc3.hr] at this; cases this
          have hpr : pd ≠ rd := fun z => by
            have h1 := hc3.hp
            rw [z, hc3.hr] at h1
            injection h1 with h1
            injection h1 with h1
            exact lay_rows h1.symm
          refine ⟨by rw [sizeLine_eq]; omega, hR2 _ _ _ (Sub.refl _) ⟨setR rw i (touchL b wy (rw i)), sb3.set hr0, ⟨by rw [gup_ne hxr]; exact hc3.hx, by rw [gup_ne hpr]; exact hc3.hp, gup_same, fun j => ?_, hc3.sets⟩, fun j => ?_, r', rfl, fun c hc => hr' c (by simp [hc]), ?_, by simp; omega⟩⟩
          · simp only [setR]
            split
            · exact Nat.le_trans (touchL_len hw.2) (by decide)
            · exact hc3.small j
          · simp only [setR]
            split
            · exact touchL_len hw.2
            · exact hsm j
          · rw [← hacc]
            simp only [hitsL, hi, stepR, List.map_cons, List.append_assoc, List.singleton_append]
    · simp only [lMakeK, lCons, lNil, lIfS, lAnd, lOr, lNot, lB, lOp, lVar, lC, lCons, lNil, lTup, lLst, lUn, lCB, lAsg, gN, lSet, lRet, lRetN, lDrop, lNext, lIf, lBM, lFor, lLc, lDc, lIt, lRg1, lRg2, lEnum, lZip, lMeth, lCall, lProp, lFld, lFldS, lGlob, lIsi2, lChain, lSl, lSome, lNo, lAndV, lOrV, lNotV, lPar, lPar3, lMake, lDisp, lPCons, lPNil, lYes, lPTup, lUnP, lPIx, unP, gT, gCons2, gNil2, slotsOf_nil, slotsOf_cons, wipe2, sl, List.set, List.append_nil]
      refine ⟨rfl, rfl, fun x hx => ⟨x, d, wy, st, ls, ss, rfl, gup_same, Sub.gup hx _ _ hd, hg, hw, hst.up (Sub.gup hx), hss, fun G2 pd rd ls' sx hp0 hr0 hsl hc => ⟨rfl, ?_⟩⟩⟩
      have hpx : pd ≠ x := fresh_ne gup_same hp0
      have hrx : rd ≠ x := fresh_ne gup_same hr0
      rw [gup_ne hpx] at hp0
      rw [gup_ne hrx] at hr0
      refine hR _ _ _ (Sub.refl _) ⟨x, pd, rd, ls', rfl, fun b o e => ?_, hx, hp0, hr0, hsl.look hg.nd, hc⟩
      have hbx : b ≠ x := fun z => by rw [z, hx] at e; cases e
      exact sx b o hbx (by rw [gup_ne hbx]; exact e)
  · simp only [lIfS, lAnd, lOr, lNot, lB, lOp, lVar, lC, lCons, lNil, lTup, lLst, lUn, lCB, lAsg, gN, lSet, lRet, lRetN, lDrop, lNext, lIf, lBM, lFor, lLc, lDc, lIt, lRg1, lRg2, lEnum, lZip, lMeth, lCall, lProp, lFld, lFldS, lGlob, lIsi2, lChain, lSl, lSome, lNo, lAndV, lOrV, lNotV, lPar, lPar3, lMake, lDisp, lPCons, lPNil, lYes, lPTup, lUnP, lPIx, unP, gT, gCons2, gNil2, slotsOf_nil, slotsOf_cons, wipe2, sl, List.set, List.append_nil]
    refine itT_start hbt fun Keep hK => ?_
    refine forW_ind (I := fun r S2 G2 => ∃ t4, S2 = [some bt, some (.ref d), some (.int (wy : Int)), some st, t4, none] ∧ G2 = G ∧ ∃ r', r = r'.map T.str ∧ ∀ b ∈ r', (ls.lookup b).isSome = true) (fun S2 G2 h => ?_) (fun t r S2 G2 h => ?_) _ _ _ ⟨none, rfl, rfl, bs, rfl, hbs⟩
    · obtain ⟨t4, rfl, rfl, _⟩ := h
      exact ⟨hK _ hbt, hR _ _ _ (Sub.refl _) ⟨t4, rfl, rfl⟩⟩
    · obtain ⟨t4, rfl, rfl, r', er, hr'⟩ := h
      refine ⟨hK _ hbt, ?_⟩
      cases r' with
      | nil => cases er
      | cons b r' =>
        obtain ⟨rfl, rfl⟩ := List.cons.inj er
        refine ⟨_, rfl, fun R2 hR2 => ?_⟩
        simp only [lIfS, lAnd, lOr, lNot, lB, lOp, lVar, lC, lCons, lNil, lTup, lLst, lUn, lCB, lAsg, gN, lSet, lRet, lRetN, lDrop, lNext, lIf, lBM, lFor, lLc, lDc, lIt, lRg1, lRg2, lEnum, lZip, lMeth, lCall, lProp, lFld, lFldS, lGlob, lIsi2, lChain, lSl, lSome, lNo, lAndV, lOrV, lNotV, lPar, lPar3, lMake, lDisp, lPCons, lPNil, lYes, lPTup, lUnP, lPIx, unP, gT, gCons2, gNil2, slotsOf_nil, slotsOf_cons, wipe2, sl, List.set, List.append_nil]
        obtain ⟨i, hi⟩ := Option.isSome_iff_exists.mp (hr' b (by simp))
        exact ⟨d, layT ls, b, rfl, hd, by rw [look_lay, hi]; rfl, hR2 _ _ _ (Sub.refl _) ⟨_, rfl, rfl, r', rfl, fun c hc => hr' c (by simp [hc])⟩⟩

end K16
namespace K16
open PySem PySem.Spec PyProof.Rows L2 Dv
variable {P : Program} {w : World} {K : Fr0} {mg : Str → Option Value} {base : Heap} {CP : Addr}
def words : List Str := ["a", "b", "c", "ab", "abc", "end", "main", "touch", "zzzzzzzz", "since", "start", "q"]
theorem words_ok : ∀ s ∈ words, isName s = true ∧ PyData.strOk s = true := by decide +kernel
theorem pla_str {s : Str} (h : PyData.strOk s = true) : Pla (.str s) := ⟨by simp [nr, h], by simp [nb], by simp [dpt]⟩
theorem pla_strs {l : List Str} (h : ∀ s ∈ l, PyData.strOk s = true) : PlaL (l.map T.str) := fun t ht => by
  obtain ⟨s, hs, rfl⟩ := List.mem_map.mp ht
  exact pla_str (h s hs)
theorem perm_strs : ∀ {ys : List T} {zs : List Str}, ys.Perm (zs.map T.str) → ∃ us : List Str, ys = us.map T.str ∧ us.Perm zs := by
  intro ys zs h
  obtain ⟨us, e⟩ : ∃ us : List Str, ys = us.map T.str := by
    have : ∀ l : List T, (∀ t ∈ l, ∃ s, t = T.str s) → ∃ us : List Str, l = us.map T.str := by
      intro l
      induction l with
      | nil => intro _; exact ⟨[], rfl⟩
      | cons t l ih =>
        intro hl
        obtain ⟨s, rfl⟩ := hl t (by simp)
        obtain ⟨us, rfl⟩ := ih fun u hu => hl u (by simp [hu])
        exact ⟨s :: us, rfl⟩
    refine this ys fun t ht => ?_
    obtain ⟨s, _, rfl⟩ := List.mem_map.mp (h.subset ht)
    exact ⟨s, rfl⟩
  subst e
  refine ⟨us, rfl, ?_⟩
  have key : ∀ a : Str, us.count a = zs.count a := fun a => by
    have h1 := h.count_eq (T.str a)
    have inj : ∀ l : List Str, (l.map T.str).count (T.str a) = l.count a := by
      intro l
      induction l with
      | nil => rfl
      | cons x l ih =>
        simp only [List.map_cons, List.count_cons, ih]
        congr 1
        by_cases e : x = a
        · subst e; simp
        · simp [e]
    rw [inj, inj] at h1
    exact h1
  exact List.perm_iff_count.mpr key
def spBlks : Sp2 := fun ts G Φ _ => ∃ (dr : Addr) (m n : Nat), ts = [.ref dr, .int (m : Int)] ∧ m ≤ 12 ∧ G dr = some (.drw n) ∧ n + 12 < mostDraws ∧
  ∀ (p : Addr) (us : List Str) (G' : Gp), SubX dr G G' → G' dr = some (.drw (n + 12)) → G p = none → p ≠ dr → us.Perm words → G' p = some (.lst ((us.take m).map T.str)) → Φ (.ref p) G'
theorem sc__law_blocks : FnScope ["_law_draw", "_law_many", "_law_words"] ["_law_draw", "_law_many"] (defScope (top 28)) := ⟨rfl, rfl, rfl, by decide +kernel, rfl, by decide +kernel, by decide +kernel⟩
theorem kn__law_blocks (V : Env K mg CP) : Kn P w K mg base 3 "_law_blocks" spBlks [] := by
  refine kn_of V.d__law_blocks sc__law_blocks (by rintro ts G Φ ΦE ⟨dr, m, n, rfl, _⟩; rfl) fun f cdv A outer s H E ts G Φ ΦE hr ho hsp => ⟨_, (es_cons (s_set (j := 2) sc__law_blocks.nd rfl (by first | exact .inl rfl | exact .inr rfl) (e_lst (ea_cons e_str (ea_cons e_str (ea_cons e_str (ea_cons e_str (ea_cons e_str (ea_cons e_str (ea_cons e_str (ea_cons e_str (ea_cons e_str (ea_cons e_str (ea_cons e_str (ea_cons e_str ea_nil)))))))))))))) (es_one (s_ret (e_slice (e_kn (kn__law_shuffled V) (hr.mono (by decide)) (ea_cons (e_var 0) (ea_cons (e_var 2) ea_nil))) eo_none (eo_some (e_var 1)))))), ?_⟩
  obtain ⟨dr, m, n, rfl, hm, hd, hn, q⟩ := hsp
  have hz : ∀ m : Nat, m ≤ 20000 → m ≤ sizeLine := fun m h => by rw [sizeLine_eq]; omega
  show lSeq _ _ _ [some (.ref dr), some (.int (m : Int)), none] _
  refine sq (M := fun S' G' => ∃ a, G a = none ∧ S' = [some (.ref dr), some (.int (m : Int)), some (.ref a)] ∧ G' = gup G a (.lst (words.map T.str))) ?_ (fun R hR => ?_)
  · rintro S' G' ⟨a, ha, rfl, rfl⟩
    have had : a ≠ dr := fresh_ne hd ha
    simp only [lIfS, lAnd, lOr, lNot, lB, lOp, lVar, lC, lCons, lNil, lTup, lLst, lUn, lCB, lAsg, gN, lSet, lRet, lRetN, lDrop, lNext, lIf, lBM, lFor, lLc, lDc, lIt, lRg1, lRg2, lEnum, lZip, lMeth, lCall, lProp, lFld, lFldS, lGlob, lIsi2, lChain, lSl, lSome, lNo, lAndV, lOrV, lNotV, lPar, lPar3, lMake, lDisp, lPCons, lPNil, lYes, lPTup, lUnP, lPIx, unP, gT, gCons2, gNil2, slotsOf_nil, slotsOf_cons, wipe2, sl, List.set, List.append_nil]
    refine ⟨dr, a, n, words.map T.str, rfl, by rw [gup_ne had.symm]; exact hd, gup_same, pla_strs fun s hs => (words_ok s hs).2, by decide, hn, fun p ys G2 sx gd hp gp hperm => ?_⟩
    obtain ⟨us, rfl, hu⟩ := perm_strs hperm
    have hpa : p ≠ a := fresh_ne gup_same hp
    rw [gup_ne hpa] at hp
    simp only [slT, gp]
    intro p2 hp2
    rw [cut_to, ← List.map_take]
    have hp2d : p2 ≠ dr := fresh_ne gd hp2
    have sb : SubX dr G G2 := fun b o hb e => sx b o hb ((Sub.gup ha) b o e)
    have hp0 : G p2 = none := by
      cases e : G p2 with
      | none => rfl
      | some o => rw [sb p2 o hp2d e] at hp2; cases hp2
    refine rtF.of (q p2 us _ (sb.sub (Sub.gup hp2)) (Sub.gup hp2 _ _ gd) hp0 hp2d hu (by rw [gup_same]))
  · simp only [lIfS, lAnd, lOr, lNot, lB, lOp, lVar, lC, lCons, lNil, lTup, lLst, lUn, lCB, lAsg, gN, lSet, lRet, lRetN, lDrop, lNext, lIf, lBM, lFor, lLc, lDc, lIt, lRg1, lRg2, lEnum, lZip, lMeth, lCall, lProp, lFld, lFldS, lGlob, lIsi2, lChain, lSl, lSome, lNo, lAndV, lOrV, lNotV, lPar, lPar3, lMake, lDisp, lPCons, lPNil, lYes, lPTup, lUnP, lPIx, unP, gT, gCons2, gNil2, slotsOf_nil, slotsOf_cons, wipe2, sl, List.set, List.append_nil]
    refine ⟨hz 12 (by decide), fun a ha => ?_⟩
    exact hR _ _ _ (Sub.refl _) ⟨a, ha, rfl, rfl⟩
end K16
namespace K16
open PySem PySem.Spec PyProof.Rows L2 Dv
variable {P : Program} {w : World} {K : Fr0} {mg : Str → Option Value} {base : Heap} {CP : Addr}
/-! ### the law's own lists for each set -/
theorem inT_strs {neg : Bool} {G : Gp} {a : Addr} {b : Str} {l : List Str} {Φ : QT} (ha : G a = some (.lst (l.map T.str))) (hb : PyData.strOk b = true) (hl : ∀ s ∈ l, PyData.strOk s = true) (q : Φ (.bl (if neg then !decide (b ∈ l) else decide (b ∈ l))) G) : inT neg (.str b) (.ref a) G Φ := by
  have hpl := pla_strs hl
  obtain ⟨x1, x2, x3⟩ := hpl.facts
  obtain ⟨dx, cx, ex⟩ := nrL_dat (G := G) (l.map T.str) x1
  simp only [inT, ha]
  refine ⟨.str b, pdL (l.map T.str), .str b, .lst ha dx, shaped_of (by simpa [PyData.canLay0] using hb) (by simp [PyData.depth]), shaped_of (by simpa [PyData.canLay0] using cx) (by simp only [PyData.depth, ex]; omega), ?_⟩
  have e : (pdL (l.map T.str)).any (fun z => PyData.eqv z (.str b)) = decide (b ∈ l) := by
    clear q x1 x2 x3 dx cx ex hpl ha hl
    induction l with
    | nil => rfl
    | cons x l ih =>
      simp only [List.map_cons, pdL, pd, List.any_cons, ih, PyData.eqv, List.mem_cons]
      rw [beq_dec, ← Bool.decide_or]
      exact decide_eq_decide.mpr ⟨fun h => h.imp (fun e => e.symm) id, fun h => h.imp (fun e => e.symm) id⟩
  rw [e]
  exact q
def shelfT (ad : Nat → Addr) (n : Nat) : List (T × T) := (List.range n).map fun (i : Nat) => (T.int (i : Int), T.ref (ad i))
theorem shelf_pairs {ad : Nat → Addr} : ∀ n, pairsT ((List.range n).map fun (i : Nat) => T.tup [.int (i : Int), .ref (ad i)]) = some (shelfT ad n) := by
  intro n
  have : ∀ l : List Nat, pairsT (l.map fun (i : Nat) => T.tup [.int (i : Int), .ref (ad i)]) = some (l.map fun (i : Nat) => (T.int (i : Int), T.ref (ad i))) := by
    intro l
    induction l with
    | nil => rfl
    | cons i l ih => simp only [List.map_cons, pairsT, keyT, ih]
  exact this _
theorem shelf_merge {ad : Nat → Addr} : ∀ n, dmerge [] (shelfT ad n) = shelfT ad n := by
  intro n
  induction n with
  | zero => rfl
  | succ n ih =>
    have e : shelfT ad (n + 1) = shelfT ad n ++ [(.int (n : Int), .ref (ad n))] := by simp [shelfT, List.range_succ]
    rw [e]
    unfold dmerge at ih ⊢
    rw [List.foldl_append, ih]
    refine dput_newT fun z => ?_
    simp only [shelfT, List.map_map] at z
    obtain ⟨i, hi, e⟩ := List.mem_map.mp z
    have hi := List.mem_range.mp hi
    have e : (i : Int) = (n : Int) := by simpa using e
    omega
theorem shelf_put {ad : Nat → Addr} {i : Nat} {p : Addr} (h : i < 8) : dput (shelfT ad 8) (.int (i : Int)) (.ref p) = shelfT (fun j => if j = i then p else ad j) 8 := by
  unfold shelfT
  rw [put_rng h]
  refine List.map_congr_left fun j _ => ?_
  by_cases e : j = i <;> simp [e]
/-- the shelf as it stands -/
structure Shelf (G0 G : Gp) (sh : Addr) (ad : Nat → Addr) (rw : Rows) : Prop where
  sb : Sub G0 G
  hs : G sh = some (.dic (shelfT ad 8))
  hr : ∀ i < 8, G (ad i) = some (.lst ((rw i).map T.str))
  fs : G0 sh = none
  ok : ∀ i, ∀ s ∈ rw i, PyData.strOk s = true
  small : ∀ i, (rw i).length ≤ 8
theorem Shelf.new {G0 G : Gp} {sh : Addr} {ad : Nat → Addr} {rw : Rows} (h : Shelf G0 G sh ad rw) {p : Addr} {o : O} (hp : G p = none) : Shelf G0 (gup G p o) sh ad rw :=
  ⟨h.sb.trans (Sub.gup hp), Sub.gup hp _ _ h.hs, fun i hi => Sub.gup hp _ _ (h.hr i hi), h.fs, h.ok, h.small⟩
theorem Shelf.put {G0 G : Gp} {sh : Addr} {ad : Nat → Addr} {rw : Rows} {i : Nat} {b : Str} {wy : Nat} (h : Shelf G0 G sh ad rw) (hw : wy ≤ 8) (hb : PyData.strOk b = true) {p : Addr} (hp : G p = none) :
    Shelf G0 (gup (gup G p (.lst ((touchL b wy (rw i)).map T.str))) sh (.dic (shelfT (fun j => if j = i then p else ad j) 8))) sh (fun j => if j = i then p else ad j) (setR rw i (touchL b wy (rw i))) := by
  have hps : p ≠ sh := fresh_ne h.hs hp
  refine ⟨(h.sb.trans (Sub.gup hp)).set h.fs, gup_same, fun j hj => ?_, h.fs, fun j => ?_, fun j => ?_⟩
  · simp only [setR]
    by_cases e : j = i
    · rw [if_pos e, if_pos e, gup_ne hps, gup_same]
    · have h1 := h.hr j hj
      rw [if_neg e, if_neg e, gup_ne (fun z => by rw [z, h.hs] at h1; cases h1), gup_ne (fresh_ne h1 hp).symm]
      exact h1
  · simp only [setR]
    split
    · intro s hs
      have hs := List.mem_of_mem_take hs
      rcases List.mem_cons.mp hs with rfl | hs
      · exact hb
      · exact h.ok i s (List.mem_filter.mp hs).1
    · exact h.ok j
  · simp only [setR]
    split
    · exact touchL_len hw
    · exact h.small j
theorem enum_drop {xs : List T} {j : Nat} {x : T} {r : List T} (h : xs.drop j = x :: r) : (enumT xs).drop j = .tup [.int (j : Int), x] :: (enumT xs).drop (j + 1) := by
  have hj : j < xs.length := by
    rcases Nat.lt_or_ge j xs.length with h1 | h1
    · exact h1
    · rw [List.drop_eq_nil_of_le h1] at h; cases h
  have hj2 : j < (enumT xs).length := by rw [enumT, List.length_map, List.length_zipIdx]; exact hj
  have e1 : xs[j] = x := by rw [List.drop_eq_getElem_cons hj] at h; exact (List.cons.inj h).1
  rw [List.drop_eq_getElem_cons hj2]
  congr 1
  simp only [enumT, List.getElem_map, List.getElem_zipIdx, e1, Nat.zero_add]
theorem Shelf.grow {G0 G : Gp} {sh : Addr} {ad : Nat → Addr} {rw : Rows} (h : Shelf G0 G sh ad rw) {f1 : Addr} {o : O} (h0 : G0 f1 = none) (hs : f1 ≠ sh) (ha : ∀ i < 8, ad i ≠ f1) : Shelf G0 (gup G f1 o) sh ad rw :=
  ⟨h.sb.set h0, by rw [gup_ne hs.symm]; exact h.hs, fun i hi => by rw [gup_ne (ha i hi)]; exact h.hr i hi, h.fs, h.ok, h.small⟩
def spLHits : Sp2 := fun ts G Φ _ => ∃ (d sa : Addr) (wy : Nat) (ka : Addr) (ls : Lay) (bs ss : List Str), ts = [.ref d, .ref sa, .int (wy : Int), .ref ka] ∧ G d = some (.dic (layT ls)) ∧ GoodLay ls ∧ G sa = some (.lst (bs.map T.str)) ∧ G ka = some (.lst (ss.map T.str)) ∧ wy ≤ 8 ∧
  (∀ b ∈ ss ++ bs, (ls.lookup b).isSome = true ∧ PyData.strOk b = true) ∧ ss.length + bs.length ≤ 1000 ∧ ∀ p G', Sub G G' → G p = none → G' p = some (.lst ((hitsL ls wy (runR ls wy (fun _ => []) ss) bs).map T.bl)) → Φ (.ref p) G'
theorem sc__law_hits : FnScope ["_law_homes", "_law_seen", "_law_width", "_law_kept", "_law_shelf", "_law_found", "_law_site", "_law_at", "_law_one", "_law_rows", "_law_is_hit", "_law_other"] ["_law_homes", "_law_seen", "_law_width", "_law_kept"] (defScope (top 27)) := ⟨rfl, rfl, rfl, by decide +kernel, rfl, by decide +kernel, by decide +kernel⟩
theorem kn__law_hits (V : Env K mg CP) : Kn P w K mg base 1 "_law_hits" spLHits [] := by
  refine kn_of V.d__law_hits sc__law_hits (by rintro ts G Φ ΦE ⟨d, sa, wy, ka, ls, bs, ss, rfl, _⟩; rfl) fun f cdv A outer s H E ts G Φ ΦE hr ho hsp => ⟨_, (es_cons (s_par (j := 4) (k := 5) rfl sc__law_hits.nd rfl rfl (by decide) rfl rfl (ea_cons (b_dictE V.b_dict (ea_cons (e_lc [("_law_site", 6)] sc__law_hits.nd (i_rg1 rfl V.b_range (ea_cons e_int ea_nil)) (fun _ _ _ _ _ => (g_name (j := 6) sc__law_hits.nd rfl (by first | exact .inl rfl | exact .inr rfl))) (fun _ _ _ _ _ => ts_nil) (fun _ _ _ _ _ => (e_tup (ea_cons (e_var 6) (ea_cons (e_lst ea_nil) ea_nil))))) ea_nil)) (ea_cons (e_lst ea_nil) ea_nil)) rfl) (es_cons (s_for (passes_of rfl) rfl (i_enum rfl V.b_enumerate (ea_cons (e_bin o_add (b_listE V.b_list (ea_cons (e_var 3) ea_nil)) (b_listE V.b_list (ea_cons (e_var 1) ea_nil))) ea_nil)) (g_tup (n := 2) rfl (gs_cons (g_name (j := 7) sc__law_hits.nd rfl (by first | exact .inl rfl | exact .inr rfl)) (gs_cons (g_name (j := 8) sc__law_hits.nd rfl (by first | exact .inl rfl | exact .inr rfl)) gs_nil))) (es_cons (s_set (j := 9) sc__law_hits.nd rfl (by first | exact .inl rfl | exact .inr rfl) (e_ix hr.u1 (e_var 4) (e_ix hr.u1 (e_var 0) (e_var 8) (fun _ _ => rfl)) (fun _ _ => rfl))) (es_cons (s_set (j := 10) sc__law_hits.nd rfl (by first | exact .inl rfl | exact .inr rfl) (e_cmp (o_in hr.u65) (e_var 8) (e_var 9))) (es_cons (s_store hr.u1 (e_var 4) (e_ix hr.u1 (e_var 0) (e_var 8) (fun _ _ => rfl)) (e_slice (e_bin o_add (e_lst (ea_cons (e_var 8) ea_nil)) (e_lc [("_law_other", 11)] sc__law_hits.nd (i_val (e_var 9)) (fun _ _ _ _ _ => (g_name (j := 11) sc__law_hits.nd rfl (by first | exact .inl rfl | exact .inr rfl))) (fun _ _ _ _ _ => (ts_one (et_cmp (o_ne hr.u64) (e_var 11) (e_var 8)))) (fun _ _ _ _ _ => (e_var 11)))) eo_none (eo_some (e_var 2)))) (es_one (s_if (et_cmp o_ge (e_var 7) (b_lenE V.b_len (ea_cons (e_var 3) ea_nil))) (es_one (s_expr (e_append (e_var 5) (ea_cons (e_var 10) ea_nil)))) es_nil)))))) (es_one (s_ret (e_var 5))))), ?_⟩
  obtain ⟨d, sa, wy, ka, ls, bs, ss, rfl, hd, hg, hsa, hka, hw, hok, hln, q⟩ := hsp
  have hz : ∀ m : Nat, m ≤ 20000 → m ≤ sizeLine := fun m h => by rw [sizeLine_eq]; omega
  show lSeq _ _ _ [some (.ref d), some (.ref sa), some (.int (wy : Int)), some (.ref ka), none, none, none, none, none, none, none, none] _
  refine sq (M := fun S' G' => ∃ sh f1 ad, S' = [some (.ref d), some (.ref sa), some (.int (wy : Int)), some (.ref ka), some (.ref sh), some (.ref f1), none, none, none, none, none, none] ∧ Shelf G G' sh ad (fun _ => []) ∧ G' f1 = some (.lst []) ∧ G f1 = none ∧ f1 ≠ sh ∧ ∀ i < 8, ad i ≠ f1) ?_ (fun R hR => ?_)
  · rintro S' G' ⟨sh, f1, ad, rfl, hsh, gf, hf0, hfs, had⟩
    refine sq (M := fun S' G2 => ∃ t7 t8 t9 t10, S' = [some (.ref d), some (.ref sa), some (.int (wy : Int)), some (.ref ka), some (.ref sh), some (.ref f1), none, t7, t8, t9, t10, none] ∧ Sub G G2 ∧ G2 f1 = some (.lst ((hitsL ls wy (runR ls wy (fun _ => []) ss) bs).map T.bl))) ?_ (fun R hR => ?_)
    · rintro S' G2 ⟨t7, t8, t9, t10, rfl, sb, gf⟩
      simp only [lIfS, lAnd, lOr, lNot, lB, lOp, lVar, lC, lCons, lNil, lTup, lLst, lUn, lCB, lAsg, gN, lSet, lRet, lRetN, lDrop, lNext, lIf, lBM, lFor, lLc, lDc, lIt, lRg1, lRg2, lEnum, lZip, lMeth, lCall, lProp, lFld, lFldS, lGlob, lIsi2, lChain, lSl, lSome, lNo, lAndV, lOrV, lNotV, lPar, lPar3, lMake, lDisp, lPCons, lPNil, lYes, lPTup, lUnP, lPIx, unP, gT, gCons2, gNil2, slotsOf_nil, slotsOf_cons, wipe2, sl, List.set, List.append_nil]
      exact rtF.of (q f1 G2 sb hf0 gf)
    · simp only [lIfS, lAnd, lOr, lNot, lB, lOp, lVar, lC, lCons, lNil, lTup, lLst, lUn, lCB, lAsg, gN, lSet, lRet, lRetN, lDrop, lNext, lIf, lBM, lFor, lLc, lDc, lIt, lRg1, lRg2, lEnum, lZip, lMeth, lCall, lProp, lFld, lFldS, lGlob, lIsi2, lChain, lSl, lSome, lNo, lAndV, lOrV, lNotV, lPar, lPar3, lMake, lDisp, lPCons, lPNil, lYes, lPTup, lUnP, lPIx, unP, gT, gCons2, gNil2, slotsOf_nil, slotsOf_cons, wipe2, sl, List.set, List.append_nil]
      simp only [listT, hsh.sb _ _ hka]
      intro p1 hp1
      have h1 := hsh.new (o := .lst (ss.map T.str)) hp1
      simp only [h1.sb _ _ hsa]
      intro p2 hp2
      have h2 := h1.new (o := .lst (bs.map T.str)) hp2
      refine addT_lst (Sub.gup hp2 _ _ gup_same) gup_same (by rw [List.length_map, List.length_map]; exact hz _ (by omega)) fun p3 hp3 => ?_
      have h3 := h2.new (o := .lst (ss.map T.str ++ bs.map T.str)) hp3
      have gf3 := Sub.gup (o := .lst (ss.map T.str ++ bs.map T.str)) hp3 _ _ (Sub.gup (o := .lst (bs.map T.str)) hp2 _ _ (Sub.gup (o := .lst (ss.map T.str)) hp1 _ _ gf))
      simp only [gup_same]
      have hp30 : G p3 = none := h2.sb.fresh hp3
      have hp3s : p3 ≠ sh := fresh_ne h2.hs hp3
      have hp3f : p3 ≠ f1 := fun z => by
        have e1 := Sub.gup (o := .lst (bs.map T.str)) hp2 _ _ (Sub.gup (o := .lst (ss.map T.str)) hp1 _ _ gf)
        rw [z, e1] at hp3; cases hp3
      refine forW_ind (I := fun r S2 G2 => ∃ t7 t8 t9 t10 ad rw j ss' bs' fs, S2 = [some (.ref d), some (.ref sa), some (.int (wy : Int)), some (.ref ka), some (.ref sh), some (.ref f1), none, t7, t8, t9, t10, none] ∧ (∀ i < 8, ad i ≠ f1) ∧ Shelf G G2 sh ad rw ∧ G2 p3 = some (.lst (ss.map T.str ++ bs.map T.str)) ∧ G2 f1 = some (.lst (fs.map T.bl)) ∧
          r = (enumT (ss.map T.str ++ bs.map T.str)).drop j ∧ (ss.map T.str ++ bs.map T.str).drop j = (ss' ++ bs').map T.str ∧ (ss' = [] → ss.length ≤ j) ∧ (ss' ≠ [] → j + ss'.length = ss.length) ∧ (∀ b ∈ ss' ++ bs', (ls.lookup b).isSome = true ∧ PyData.strOk b = true) ∧
          fs ++ hitsL ls wy (runR ls wy rw ss') bs' = hitsL ls wy (runR ls wy (fun _ => []) ss) bs ∧ fs.length ≤ j)
        (fun S2 G2 h => ?_) (fun t r S2 G2 h => ?_) _ _ _ ⟨none, none, none, none, ad, fun _ => [], 0, ss, bs, [], rfl, had, h3, gup_same, gf3, rfl, by simp, fun e => by rw [e]; exact Nat.zero_le _, fun _ => Nat.zero_add _, hok, rfl, Nat.le_refl _⟩
      · obtain ⟨t7, t8, t9, t10, ad2, rw2, j, ss', bs', fs, rfl, had2, hs2, hp32, hf2, er, ed, _, _, _, hacc, _⟩ := h
        refine ⟨hp32, ?_⟩
        have el : (ss.map T.str ++ bs.map T.str).length ≤ j := by
          have h1 : (enumT (ss.map T.str ++ bs.map T.str)).length ≤ j := List.drop_eq_nil_iff.mp er.symm
          rwa [enumT, List.length_map, List.length_zipIdx] at h1
        rw [List.drop_eq_nil_of_le el] at ed
        have e2 : ss' ++ bs' = [] := by simpa using ed.symm
        obtain ⟨rfl, rfl⟩ := List.append_eq_nil_iff.mp e2
        refine hR _ _ _ (Sub.refl _) ⟨t7, t8, t9, t10, rfl, hs2.sb, ?_⟩
        simp only [runR, List.foldl_nil, hitsL, List.append_nil] at hacc
        rw [hf2, hacc]
        rfl
      · obtain ⟨t7, t8, t9, t10, ad2, rw2, j, ss', bs', fs, rfl, had2, hs2, hp32, hf2, er, ed, he0, hn0, hok2, hacc, hfl⟩ := h
        refine ⟨hp32, ?_⟩
        obtain ⟨c, rest, erest⟩ : ∃ c rest, ss' ++ bs' = c :: rest := by
          cases e : ss' ++ bs' with
          | nil =>
            rw [e] at ed
            have h1 : (ss.map T.str ++ bs.map T.str).length ≤ j := List.drop_eq_nil_iff.mp ed
            rw [List.drop_eq_nil_of_le (by rw [enumT, List.length_map, List.length_zipIdx]; exact h1)] at er
            cases er
          | cons c rest => exact ⟨c, rest, rfl⟩
        rw [erest] at ed hok2
        rw [enum_drop ed] at er
        obtain ⟨rfl, rfl⟩ := List.cons.inj er
        have ed2 : (ss.map T.str ++ bs.map T.str).drop (j + 1) = rest.map T.str := by rw [← List.drop_drop, ed]; rfl
        have hjl : j < ss.length + bs.length := by
          have h1 := congrArg List.length ed
          simp only [List.length_drop, List.length_append, List.length_map, List.length_cons] at h1
          omega
        obtain ⟨hc1, hc2⟩ := hok2 c List.mem_cons_self
        obtain ⟨i, hi⟩ := Option.isSome_iff_exists.mp hc1
        have hi8 : i < 8 := lay_lt hg hi
        have hlk : dlook (layT ls) (.str c) = some (.int (i : Int)) := by rw [look_lay, hi]; rfl
        have hdd := hs2.sb _ _ hd
        have hsh2 : dlook (shelfT ad2 8) (.int (i : Int)) = some (.ref (ad2 i)) := look_rng hi8
        have hro := hs2.hr i hi8
        have hsm := hs2.small i
        have hzz : ∀ m : Nat, m ≤ 20000 → m ≤ sizeLine := hz
        have hf1n : G2 f1 ≠ none := by rw [hf2]; simp
        refine ⟨_, rfl, fun R2 hR2 => ?_⟩
        refine sq1 (S1 := [some (.ref d), some (.ref sa), some (.int (wy : Int)), some (.ref ka), some (.ref sh), some (.ref f1), none, some (.int (j : Int)), some (.str c), some (.ref (ad2 i)), t10, none]) (G1 := G2) (fun R3 hR3 => ?_) ?_
        · simp only [lIfS, lAnd, lOr, lNot, lB, lOp, lVar, lC, lCons, lNil, lTup, lLst, lUn, lCB, lAsg, gN, lSet, lRet, lRetN, lDrop, lNext, lIf, lBM, lFor, lLc, lDc, lIt, lRg1, lRg2, lEnum, lZip, lMeth, lCall, lProp, lFld, lFldS, lGlob, lIsi2, lChain, lSl, lSome, lNo, lAndV, lOrV, lNotV, lPar, lPar3, lMake, lDisp, lPCons, lPNil, lYes, lPTup, lUnP, lPIx, unP, gT, gCons2, gNil2, slotsOf_nil, slotsOf_cons, wipe2, sl, List.set, List.append_nil]
          refine ixT_dicI hdd hlk ?_
          exact ixT_dicI hs2.hs hsh2 (hR3 _ (Sub.refl _))
        refine sq1 (S1 := [some (.ref d), some (.ref sa), some (.int (wy : Int)), some (.ref ka), some (.ref sh), some (.ref f1), none, some (.int (j : Int)), some (.str c), some (.ref (ad2 i)), some (.bl (decide (c ∈ rw2 i))), none]) (G1 := G2) (fun R3 hR3 => ?_) ?_
        · simp only [lIfS, lAnd, lOr, lNot, lB, lOp, lVar, lC, lCons, lNil, lTup, lLst, lUn, lCB, lAsg, gN, lSet, lRet, lRetN, lDrop, lNext, lIf, lBM, lFor, lLc, lDc, lIt, lRg1, lRg2, lEnum, lZip, lMeth, lCall, lProp, lFld, lFldS, lGlob, lIsi2, lChain, lSl, lSome, lNo, lAndV, lOrV, lNotV, lPar, lPar3, lMake, lDisp, lPCons, lPNil, lYes, lPTup, lUnP, lPIx, unP, gT, gCons2, gNil2, slotsOf_nil, slotsOf_cons, wipe2, sl, List.set, List.append_nil]
          exact inT_strs hro hc2 (hs2.ok i) (hR3 _ (Sub.refl _))
        refine sq (M := fun S' G3 => ∃ p, G2 p = none ∧ S' = [some (.ref d), some (.ref sa), some (.int (wy : Int)), some (.ref ka), some (.ref sh), some (.ref f1), none, some (.int (j : Int)), some (.str c), some (.ref (ad2 i)), some (.bl (decide (c ∈ rw2 i))), none] ∧ G3 = gup (gup G2 p (.lst ((touchL c wy (rw2 i)).map T.str))) sh (.dic (shelfT (fun k => if k = i then p else ad2 k) 8))) ?_ (fun R3 hR3 => ?_)
        · rintro S' G3 ⟨p, hp, rfl, rfl⟩
          have hs3 := hs2.put (i := i) hw hc2 hp
          have hps : p ≠ sh := fresh_ne hs2.hs hp
          have hpf : f1 ≠ p := fun z => hf1n (by rw [z]; exact hp)
          have hp3' : p3 ≠ p := fun z => by rw [z, hp] at hp32; cases hp32
          have hf3 : gup (gup G2 p (.lst ((touchL c wy (rw2 i)).map T.str))) sh (.dic (shelfT (fun k => if k = i then p else ad2 k) 8)) f1 = some (.lst (fs.map T.bl)) := by rw [gup_ne hfs, gup_ne hpf]; exact hf2
          have hp33 : gup (gup G2 p (.lst ((touchL c wy (rw2 i)).map T.str))) sh (.dic (shelfT (fun k => if k = i then p else ad2 k) 8)) p3 = some (.lst (ss.map T.str ++ bs.map T.str)) := by rw [gup_ne hp3s, gup_ne hp3']; exact hp32
          have hka3 := hs3.sb _ _ hka
          have had3 : ∀ k < 8, (if k = i then p else ad2 k) ≠ f1 := fun k hk => by
            split
            · exact fun z => hpf z.symm
            · exact had2 k hk
          generalize gup (gup G2 p (.lst ((touchL c wy (rw2 i)).map T.str))) sh (.dic (shelfT (fun k => if k = i then p else ad2 k) 8)) = G3 at *
          have hst : stepR ls wy rw2 c = setR rw2 i (touchL c wy (rw2 i)) := by simp only [stepR, hi]
          simp only [lIfS, lAnd, lOr, lNot, lB, lOp, lVar, lC, lCons, lNil, lTup, lLst, lUn, lCB, lAsg, gN, lSet, lRet, lRetN, lDrop, lNext, lIf, lBM, lFor, lLc, lDc, lIt, lRg1, lRg2, lEnum, lZip, lMeth, lCall, lProp, lFld, lFldS, lGlob, lIsi2, lChain, lSl, lSome, lNo, lAndV, lOrV, lNotV, lPar, lPar3, lMake, lDisp, lPCons, lPNil, lYes, lPTup, lUnP, lPIx, unP, gT, gCons2, gNil2, slotsOf_nil, slotsOf_cons, wipe2, sl, List.set, List.append_nil]
          refine lenT_lstI hka3 ?_
          simp only [ordT, List.length_map]
          cases ss' with
          | nil =>
            have hj0 := he0 rfl
            rw [List.nil_append] at erest
            subst erest
            rw [decide_eq_true (by omega), if_pos rfl]
            refine ⟨tyT_lst hf3, appT_lstI hf3 (by rw [sizeLine_eq, List.length_map]; omega) ?_⟩
            refine hR2 _ _ _ (Sub.refl _) ⟨_, _, _, _, _, setR rw2 i (touchL c wy (rw2 i)), j + 1, [], rest, fs ++ [decide (c ∈ rw2 i)], rfl, had3, hs3.grow hf0 hfs had3, by rw [gup_ne hp3f]; exact hp33, by rw [gup_same, List.map_append]; rfl, rfl, by simpa using ed2, fun _ => by omega, fun z => absurd rfl z, fun b hb => hok2 b (List.mem_cons_of_mem _ hb), ?_, by simp; omega⟩
            rw [← hacc]
            simp only [runR, List.foldl_nil, hitsL, hi, hst, List.append_assoc, List.singleton_append]
            rfl
          | cons c2 ss2 =>
            have hjn := hn0 (by simp)
            rw [List.length_cons] at hjn
            obtain ⟨rfl, rfl⟩ := List.cons.inj erest
            rw [decide_eq_false (by omega), if_neg (by simp)]
            refine hR2 _ _ _ (Sub.refl _) ⟨_, _, _, _, _, _, j + 1, ss2, bs', fs, rfl, had3, hs3, hp33, hf3, rfl, by simpa using ed2, fun e => ?_, fun e => ?_, fun b hb => hok2 b (List.mem_cons_of_mem _ hb), ?_, by omega⟩
            · subst e; rw [List.length_nil] at hjn; omega
            · omega
            · rw [← hacc]
              simp only [runR, List.foldl_cons, hst]
        · simp only [lSet, lIfS, lAnd, lOr, lNot, lB, lOp, lVar, lC, lCons, lNil, lTup, lLst, lUn, lCB, lAsg, gN, lSet, lRet, lRetN, lDrop, lNext, lIf, lBM, lFor, lLc, lDc, lIt, lRg1, lRg2, lEnum, lZip, lMeth, lCall, lProp, lFld, lFldS, lGlob, lIsi2, lChain, lSl, lSome, lNo, lAndV, lOrV, lNotV, lPar, lPar3, lMake, lDisp, lPCons, lPNil, lYes, lPTup, lUnP, lPIx, unP, gT, gCons2, gNil2, slotsOf_nil, slotsOf_cons, wipe2, sl, List.set, List.append_nil]
          refine ⟨hz 1 (by decide), fun p1 hp1 => ?_⟩
          refine itT_lst (Sub.gup hp1 _ _ hro) ?_
          have hro1 := Sub.gup (o := .lst [T.str c]) hp1 _ _ hro
          refine lc_pure (notT c) id hro1 (by rw [List.length_map]; exact hz _ (by omega)) (fun t ht => ?_) ?_
          · obtain ⟨s, hs, rfl⟩ := List.mem_map.mp ht
            refine ⟨_, rfl, fun Φ h => ?_, fun _ G' sb Φ h => ?_⟩
            · simp only [lIfS, lAnd, lOr, lNot, lB, lOp, lVar, lC, lCons, lNil, lTup, lLst, lUn, lCB, lAsg, gN, lSet, lRet, lRetN, lDrop, lNext, lIf, lBM, lFor, lLc, lDc, lIt, lRg1, lRg2, lEnum, lZip, lMeth, lCall, lProp, lFld, lFldS, lGlob, lIsi2, lChain, lSl, lSome, lNo, lAndV, lOrV, lNotV, lPar, lPar3, lMake, lDisp, lPCons, lPNil, lYes, lPTup, lUnP, lPIx, unP, gT, gCons2, gNil2, slotsOf_nil, slotsOf_cons, wipe2, sl, List.set, List.append_nil]
              refine neT_scal rfl ?_
              have hh := h _ (Sub.refl _)
              simp only [notT] at hh
              simpa using hh
            · simp only [lIfS, lAnd, lOr, lNot, lB, lOp, lVar, lC, lCons, lNil, lTup, lLst, lUn, lCB, lAsg, gN, lSet, lRet, lRetN, lDrop, lNext, lIf, lBM, lFor, lLc, lDc, lIt, lRg1, lRg2, lEnum, lZip, lMeth, lCall, lProp, lFld, lFldS, lGlob, lIsi2, lChain, lSl, lSome, lNo, lAndV, lOrV, lNotV, lPar, lPar3, lMake, lDisp, lPCons, lPNil, lYes, lPTup, lUnP, lPIx, unP, gT, gCons2, gNil2, slotsOf_nil, slotsOf_cons, wipe2, sl, List.set, List.append_nil]
              exact h _ (Sub.refl _)
          · intro p2 hp2
            have e1 : (((rw2 i).map T.str).filter (notT c)).map id = ((rw2 i).filter fun o => decide (o ≠ c)).map T.str := by rw [List.map_id, List.filter_map]; rfl
            rw [e1]
            have hfl : ((rw2 i).filter fun o => decide (o ≠ c)).length ≤ 8 := Nat.le_trans (List.length_filter_le _ _) hsm
            refine addT_lst (Sub.gup hp2 _ _ gup_same) gup_same (by rw [List.length_map]; exact hz _ (by rw [List.length_singleton]; omega)) fun p4 hp4 => ?_
            simp only [slT, gup_same]
            intro p5 hp5
            have e2 : cut ([T.str c] ++ ((rw2 i).filter fun o => decide (o ≠ c)).map T.str) none (some (wy : Int)) = (touchL c wy (rw2 i)).map T.str := by
              rw [cut_to]; simp [touchL, List.map_take]
            rw [e2]
            have sbA := ((Sub.gup (o := .lst [T.str c]) hp1).trans (Sub.gup (o := .lst (((rw2 i).filter fun o => decide (o ≠ c)).map T.str)) hp2)).trans (Sub.gup (o := .lst ([T.str c] ++ ((rw2 i).filter fun o => decide (o ≠ c)).map T.str)) hp4)
            have sbB := sbA.trans (Sub.gup (o := .lst ((touchL c wy (rw2 i)).map T.str)) hp5)
            refine ixT_dicI (sbB _ _ hdd) hlk ?_
            refine setT_dicI (sbB _ _ hs2.hs) (by rw [sizeLine_eq, shelfT, List.length_map, List.length_range]; decide) ?_
            rw [shelf_put hi8]
            exact hR3 _ _ _ (_root_.Dv.Sub.gup2 (_root_.Dv.Sub.gup2 sbA)) ⟨p5, sbA.fresh hp5, rfl, rfl⟩
  · simp only [lIfS, lAnd, lOr, lNot, lB, lOp, lVar, lC, lCons, lNil, lTup, lLst, lUn, lCB, lAsg, gN, lSet, lRet, lRetN, lDrop, lNext, lIf, lBM, lFor, lLc, lDc, lIt, lRg1, lRg2, lEnum, lZip, lMeth, lCall, lProp, lFld, lFldS, lGlob, lIsi2, lChain, lSl, lSome, lNo, lAndV, lOrV, lNotV, lPar, lPar3, lMake, lDisp, lPCons, lPNil, lYes, lPTup, lUnP, lPIx, unP, gT, gCons2, gNil2, slotsOf_nil, slotsOf_cons, wipe2, sl, List.set, List.append_nil]
    refine ⟨by omega, ?_⟩
    refine lcW_ind (I := fun r acc G2 => ∃ ad i, i ≤ 8 ∧ r = ((List.range 8).drop i).map (fun (k : Nat) => T.int (k : Int)) ∧ acc = (List.range i).map (fun (k : Nat) => T.tup [.int (k : Int), .ref (ad k)]) ∧ Sub G G2 ∧ ∀ k < i, G2 (ad k) = some (.lst []))
      (fun acc G2 h => ?_) (fun t r acc G2 h => ?_) _ _ _ ⟨fun _ => 0, 0, by omega, rfl, rfl, Sub.refl _, fun k hk => absurd hk (Nat.not_lt_zero _)⟩
    · obtain ⟨ad, i, hi, er, rfl, sb, hk⟩ := h
      have hi8 : i = 8 := by
        have h1 := congrArg List.length er
        simp at h1
        omega
      subst hi8
      refine ⟨trivial, fun p hp => ?_⟩
      simp only [dictT, gup_same, shelf_pairs]
      rw [shelf_merge]
      intro sh hsh
      refine ⟨Nat.zero_le _, fun f1 hf1 => ?_⟩
      have hsf : f1 ≠ sh := fresh_ne gup_same hf1
      have sb2 := (Sub.gup (o := .lst ((List.range 8).map (fun (k : Nat) => T.tup [.int (k : Int), .ref (ad k)]))) hp).trans (Sub.gup (o := .dic (shelfT ad 8)) hsh)
      have sb3 := sb2.trans (Sub.gup (o := .lst []) hf1)
      refine hR _ _ _ (Sub.refl _) ⟨sh, f1, ad, rfl, ⟨sb.trans sb3, by rw [gup_ne hsf.symm, gup_same], fun i hi => sb3 _ _ (hk i hi), sb.fresh ((Sub.gup hp).fresh hsh), fun i s hs => by simp at hs, fun i => Nat.zero_le _⟩, gup_same, (sb.trans sb2).fresh hf1, hsf, fun i hi => (fresh_ne (sb2 _ _ (hk i hi)) hf1).symm⟩
    · obtain ⟨ad, i, hi, er, rfl, sb, hk⟩ := h
      refine ⟨trivial, ?_⟩
      rcases Nat.lt_or_ge i 8 with h8 | h8
      · rw [List.drop_eq_getElem_cons (by simpa using h8)] at er
        simp only [List.map_cons, List.cons.injEq, List.getElem_range] at er
        obtain ⟨rfl, rfl⟩ := er
        refine ⟨_, rfl, fun R2 hR2 => ?_⟩
        simp only [lIfS, lAnd, lOr, lNot, lB, lOp, lVar, lC, lCons, lNil, lTup, lLst, lUn, lCB, lAsg, gN, lSet, lRet, lRetN, lDrop, lNext, lIf, lBM, lFor, lLc, lDc, lIt, lRg1, lRg2, lEnum, lZip, lMeth, lCall, lProp, lFld, lFldS, lGlob, lIsi2, lChain, lSl, lSome, lNo, lAndV, lOrV, lNotV, lPar, lPar3, lMake, lDisp, lPCons, lPNil, lYes, lPTup, lUnP, lPIx, unP, gT, gCons2, gNil2, slotsOf_nil, slotsOf_cons, wipe2, sl, List.set, List.append_nil, if_true]
        refine ⟨Nat.zero_le _, fun p hp => ⟨hz 2 (by omega), by rw [sizeLine_eq, List.length_map, List.length_range]; omega, hR2 _ _ _ (Sub.refl _) ⟨fun k => if k = i then p else ad k, i + 1, h8, rfl, ?_, sb.trans (Sub.gup hp), fun k hk2 => ?_⟩⟩⟩
        · rw [List.range_succ, List.map_append]
          simp only [List.map_cons, List.map_nil, if_pos]
          congr 1
          refine List.map_congr_left fun k hk2 => ?_
          have := List.mem_range.mp hk2
          rw [if_neg (by omega)]
        · show gup G2 p (.lst []) (if k = i then p else ad k) = _
          split
          · exact gup_same
          · exact Sub.gup hp _ _ (hk k (by omega))
      · rw [List.drop_eq_nil_of_le (by simpa using h8)] at er
        cases er
end K16
namespace K16
open PySem PySem.Spec PyProof.Rows L2 Dv
variable {P : Program} {w : World} {K : Fr0} {mg : Str → Option Value} {base : Heap} {CP : Addr}
/-! ### the law's own start -/
def cntL (ls : Lay) (fs : List Str) (i : Nat) : Nat := (fs.filter fun s => decide (ls.lookup s = some i)).length
def bestS (ls : Lay) (wy : Nat) (fs : List Str) (b : Str) : List Str :=
  if b ∈ fs then fs else match ls.lookup b with
    | some i => if cntL ls fs i < wy then b :: fs else fs
    | none => fs
def bestL (ls : Lay) (wy : Nat) (bs : List Str) : List Str := bs.foldl (bestS ls wy) []
theorem dlook_put {k u v : T} : ∀ {kvs : List (T × T)}, dlook (dput kvs k v) u = if k = u then some v else dlook kvs u := by
  intro kvs
  unfold dput
  by_cases h : (kvs.any fun kv => decide (kv.1 = k)) = true
  · rw [if_pos h]
    induction kvs with
    | nil => cases h
    | cons q r ih =>
      obtain ⟨a, b⟩ := q
      by_cases e : a = k
      · subst e
        by_cases e2 : a = u
        · simp [dlook, e2]
        · rw [if_neg e2]
          simp only [List.map_cons, if_true, dlook, if_neg e2]
          have : ∀ l : List (T × T), dlook (l.map fun kv => if kv.1 = a then (kv.1, v) else kv) u = dlook l u := by
            intro l
            induction l with
            | nil => rfl
            | cons q l ihl =>
              obtain ⟨x, y⟩ := q
              by_cases e3 : x = a
              · subst e3; simp [dlook, if_neg e2, ihl]
              · simp [dlook, e3, ihl]
          exact this r
      · have h2 : (r.any fun kv => decide (kv.1 = k)) = true := by simpa [e] using h
        have ih := ih h2
        simp only [List.map_cons, if_neg e, dlook]
        by_cases e2 : a = u
        · have e4 : ¬ k = u := fun z => e (e2.trans z.symm)
          simp [e2, e4]
        · rw [if_neg e2, ih, if_neg e2]
  · rw [if_neg h]
    have h0 := h; clear h
    have h : ∀ q ∈ kvs, ¬ q.1 = k := fun q hq z => h0 (List.any_eq_true.mpr ⟨q, hq, by simpa using z⟩)
    clear h0
    induction kvs with
    | nil => simp [dlook]
    | cons q r ih =>
      obtain ⟨a, b⟩ := q
      have ih := ih fun q hq => h q (List.mem_cons_of_mem _ hq)
      have ha : ¬ a = k := h (a, b) List.mem_cons_self
      simp only [List.cons_append, dlook, ih]
      by_cases e2 : a = u
      · have e4 : ¬ k = u := fun z => ha (e2.trans z.symm)
        simp [e2, e4]
      · simp [e2]
theorem dput_le (kvs : List (T × T)) (k v : T) : (dput kvs k v).length ≤ kvs.length + 1 := by
  unfold dput
  split <;> simp
def spBest : Sp2 := fun ts G Φ _ => ∃ (d sa : Addr) (wy : Nat) (ls : Lay) (bs : List Str), ts = [.ref d, .ref sa, .int (wy : Int)] ∧ G d = some (.dic (layT ls)) ∧ GoodLay ls ∧ G sa = some (.lst (bs.map T.str)) ∧
  (∀ b ∈ bs, (ls.lookup b).isSome = true ∧ PyData.strOk b = true) ∧ bs.length ≤ 1000 ∧ ∀ p G', Sub G G' → G p = none → G' p = some (.lst ((bestL ls wy bs).map T.str)) → Φ (.ref p) G'
theorem sc__law_best_start : FnScope ["_law_homes", "_law_seen", "_law_width", "_law_found", "_law_counts", "_law_brick", "_law_spot_no"] ["_law_homes", "_law_seen", "_law_width"] (defScope (top 29)) := ⟨rfl, rfl, rfl, by decide +kernel, rfl, by decide +kernel, by decide +kernel⟩
theorem kn__law_best_start (V : Env K mg CP) : Kn P w K mg base 1 "_law_best_start" spBest [] := by
  refine kn_of V.d__law_best_start sc__law_best_start (by rintro ts G Φ ΦE ⟨d, sa, wy, ls, bs, rfl, _⟩; rfl) fun f cdv A outer s H E ts G Φ ΦE hr ho hsp => ⟨_, (es_cons (s_par (j := 3) (k := 4) rfl sc__law_best_start.nd rfl rfl (by decide) rfl rfl (ea_cons (e_lst ea_nil) (ea_cons e_dict0 ea_nil)) rfl) (es_cons (s_for (passes_of rfl) rfl (i_val (e_var 1)) (g_name (j := 5) sc__law_best_start.nd rfl (by first | exact .inl rfl | exact .inr rfl)) (es_cons (s_set (j := 6) sc__law_best_start.nd rfl (by first | exact .inl rfl | exact .inr rfl) (e_ix hr.u1 (e_var 0) (e_var 5) (fun _ _ => rfl))) (es_one (s_if (et_w (ew_and (et_cmp (o_notin hr.u65) (e_var 5) (e_var 3)) (ew_and1 (et_cmp o_lt (e_get2 hr.u1 (e_var 4) (e_var 6) e_int) (e_var 2))))) (es_cons (s_expr (e_update (e_var 4) (ea_cons (e_disp (p_cons (e_var 6) (e_bin o_add (e_get2 hr.u1 (e_var 4) (e_var 6) e_int) e_int) p_nil)) ea_nil))) (es_one (s_expr (e_insert (e_var 3) (ea_cons e_int (ea_cons (e_var 5) ea_nil)))))) es_nil)))) (es_one (s_ret (e_var 3))))), ?_⟩
  obtain ⟨d, sa, wy, ls, bs, rfl, hd, hg, hsa, hok, hln, q⟩ := hsp
  have hz : ∀ m : Nat, m ≤ 20000 → m ≤ sizeLine := fun m h => by rw [sizeLine_eq]; omega
  show lSeq _ _ _ [some (.ref d), some (.ref sa), some (.int (wy : Int)), none, none, none, none] _
  refine sq (M := fun S' G' => ∃ f1 ca, S' = [some (.ref d), some (.ref sa), some (.int (wy : Int)), some (.ref f1), some (.ref ca), none, none] ∧ Sub G G' ∧ G f1 = none ∧ G ca = none ∧ f1 ≠ ca ∧ G' f1 = some (.lst []) ∧ G' ca = some (.dic [])) ?_ (fun R hR => ?_)
  · rintro S' G' ⟨f1, ca, rfl, sb, hf0, hc0, hfc, gf, gc⟩
    refine sq (M := fun S' G2 => ∃ t5 t6, S' = [some (.ref d), some (.ref sa), some (.int (wy : Int)), some (.ref f1), some (.ref ca), t5, t6] ∧ Sub G G2 ∧ G2 f1 = some (.lst ((bestL ls wy bs).map T.str))) ?_ (fun R hR => ?_)
    · rintro S' G2 ⟨t5, t6, rfl, sb, gf⟩
      simp only [lIfS, lAnd, lOr, lNot, lB, lOp, lVar, lC, lCons, lNil, lTup, lLst, lUn, lCB, lAsg, gN, lSet, lRet, lRetN, lDrop, lNext, lIf, lBM, lFor, lLc, lDc, lIt, lRg1, lRg2, lEnum, lZip, lMeth, lCall, lProp, lFld, lFldS, lGlob, lIsi2, lChain, lSl, lSome, lNo, lAndV, lOrV, lNotV, lPar, lPar3, lMake, lDisp, lPCons, lPNil, lYes, lPTup, lUnP, lPIx, unP, gT, gCons2, gNil2, slotsOf_nil, slotsOf_cons, wipe2, sl, List.set, List.append_nil]
      exact rtF.of (q f1 G2 sb hf0 gf)
    · simp only [lIfS, lAnd, lOr, lNot, lB, lOp, lVar, lC, lCons, lNil, lTup, lLst, lUn, lCB, lAsg, gN, lSet, lRet, lRetN, lDrop, lNext, lIf, lBM, lFor, lLc, lDc, lIt, lRg1, lRg2, lEnum, lZip, lMeth, lCall, lProp, lFld, lFldS, lGlob, lIsi2, lChain, lSl, lSome, lNo, lAndV, lOrV, lNotV, lPar, lPar3, lMake, lDisp, lPCons, lPNil, lYes, lPTup, lUnP, lPIx, unP, gT, gCons2, gNil2, slotsOf_nil, slotsOf_cons, wipe2, sl, List.set, List.append_nil]
      refine itT_lst (sb _ _ hsa) ?_
      refine forW_ind (I := fun r S2 G2 => ∃ t5 t6 bs' fs cm, S2 = [some (.ref d), some (.ref sa), some (.int (wy : Int)), some (.ref f1), some (.ref ca), t5, t6] ∧ Sub G G2 ∧ G2 f1 = some (.lst (fs.map T.str)) ∧ G2 ca = some (.dic cm) ∧
          r = bs'.map T.str ∧ (∀ b ∈ bs', (ls.lookup b).isSome = true ∧ PyData.strOk b = true) ∧ (∀ b ∈ fs, PyData.strOk b = true) ∧ bs'.foldl (bestS ls wy) fs = bestL ls wy bs ∧ fs.length + bs'.length ≤ 1000 ∧ cm.length + bs'.length ≤ 1000 ∧ ∀ i : Nat, (dlook cm (.int (i : Int))).getD (.int 0) = .int (cntL ls fs i : Int))
        (fun S2 G2 h => ?_) (fun t r S2 G2 h => ?_) _ _ _ ⟨none, none, bs, [], [], rfl, sb, gf, gc, rfl, hok, by simp, rfl, by simpa using hln, by simpa using hln, fun i => rfl⟩
      · obtain ⟨t5, t6, bs', fs, cm, rfl, sb2, hf2, hc2, er, _, _, hb, _⟩ := h
        have e : bs' = [] := by simpa using er.symm
        subst e
        refine ⟨sb2 _ _ hsa, hR _ _ _ (Sub.refl _) ⟨t5, t6, rfl, sb2, by rw [hf2]; exact congrArg (fun l => some (O.lst (l.map T.str))) hb⟩⟩
      · obtain ⟨t5, t6, bs', fs, cm, rfl, sb2, hf2, hc2, er, hok2, hofs, hb, hl1, hl2, hcn⟩ := h
        refine ⟨sb2 _ _ hsa, ?_⟩
        cases bs' with
        | nil => cases er
        | cons b bs' =>
          obtain ⟨rfl, rfl⟩ := List.cons.inj er
          obtain ⟨hb1, hb2⟩ := hok2 b List.mem_cons_self
          obtain ⟨i, hi⟩ := Option.isSome_iff_exists.mp hb1
          have hi8 : i < 8 := lay_lt hg hi
          have hlk : dlook (layT ls) (.str b) = some (.int (i : Int)) := by rw [look_lay, hi]; rfl
          refine ⟨_, rfl, fun R2 hR2 => ?_⟩
          refine sq1 (S1 := [some (.ref d), some (.ref sa), some (.int (wy : Int)), some (.ref f1), some (.ref ca), some (.str b), some (.int (i : Int))]) (G1 := G2) (fun R3 hR3 => ?_) ?_
          · simp only [lIfS, lAnd, lOr, lNot, lB, lOp, lVar, lC, lCons, lNil, lTup, lLst, lUn, lCB, lAsg, gN, lSet, lRet, lRetN, lDrop, lNext, lIf, lBM, lFor, lLc, lDc, lIt, lRg1, lRg2, lEnum, lZip, lMeth, lCall, lProp, lFld, lFldS, lGlob, lIsi2, lChain, lSl, lSome, lNo, lAndV, lOrV, lNotV, lPar, lPar3, lMake, lDisp, lPCons, lPNil, lYes, lPTup, lUnP, lPIx, unP, gT, gCons2, gNil2, slotsOf_nil, slotsOf_cons, wipe2, sl, List.set, List.append_nil]
            exact ixT_dicI (sb2 _ _ hd) hlk (hR3 _ (Sub.refl _))
          simp only [lIfS, lAnd, lOr, lNot, lB, lOp, lVar, lC, lCons, lNil, lTup, lLst, lUn, lCB, lAsg, gN, lSet, lRet, lRetN, lDrop, lNext, lIf, lBM, lFor, lLc, lDc, lIt, lRg1, lRg2, lEnum, lZip, lMeth, lCall, lProp, lFld, lFldS, lGlob, lIsi2, lChain, lSl, lSome, lNo, lAndV, lOrV, lNotV, lPar, lPar3, lMake, lDisp, lPCons, lPNil, lYes, lPTup, lUnP, lPIx, unP, gT, gCons2, gNil2, slotsOf_nil, slotsOf_cons, wipe2, sl, List.set, List.append_nil]
          refine inT_strs hf2 hb2 hofs ?_
          by_cases hin : b ∈ fs
          · simp only [decide_eq_true hin, if_true, Bool.not_true, Bool.false_eq_true, if_false]
            refine hR2 _ _ _ (Sub.refl _) ⟨_, _, bs', fs, cm, rfl, sb2, hf2, hc2, rfl, fun c hc => hok2 c (List.mem_cons_of_mem _ hc), hofs, ?_, by rw [List.length_cons] at hl1; omega, by rw [List.length_cons] at hl2; omega, hcn⟩
            rw [← hb, List.foldl_cons, bestS, if_pos hin]
          · simp only [decide_eq_false hin, if_true, Bool.not_false, lGet2, isDT, lIfS, lAnd, lOr, lNot, lB, lOp, lVar, lC, lCons, lNil, lTup, lLst, lUn, lCB, lAsg, gN, lSet, lRet, lRetN, lDrop, lNext, lIf, lBM, lFor, lLc, lDc, lIt, lRg1, lRg2, lEnum, lZip, lMeth, lCall, lProp, lFld, lFldS, lGlob, lIsi2, lChain, lSl, lSome, lNo, lAndV, lOrV, lNotV, lPar, lPar3, lMake, lDisp, lPCons, lPNil, lYes, lPTup, lUnP, lPIx, unP, gT, gCons2, gNil2, slotsOf_nil, slotsOf_cons, wipe2, sl, List.set, List.append_nil, getT, hc2, keyT, hcn i, ordT, true_and]
            by_cases hc : cntL ls fs i < wy
            · refine cast (if_pos (decide_eq_true (by omega))).symm ?_
              refine sq1 (S1 := [some (.ref d), some (.ref sa), some (.int (wy : Int)), some (.ref f1), some (.ref ca), some (.str b), some (.int (i : Int))]) (G1 := gup G2 ca (.dic (dput cm (.int (i : Int)) (.int (cntL ls fs i + 1 : Int))))) (fun R3 hR3 => ?_) ?_
              · simp only [lGet2, isDT, lIfS, lAnd, lOr, lNot, lB, lOp, lVar, lC, lCons, lNil, lTup, lLst, lUn, lCB, lAsg, gN, lSet, lRet, lRetN, lDrop, lNext, lIf, lBM, lFor, lLc, lDc, lIt, lRg1, lRg2, lEnum, lZip, lMeth, lCall, lProp, lFld, lFldS, lGlob, lIsi2, lChain, lSl, lSome, lNo, lAndV, lOrV, lNotV, lPar, lPar3, lMake, lDisp, lPCons, lPNil, lYes, lPTup, lUnP, lPIx, unP, gT, gCons2, gNil2, slotsOf_nil, slotsOf_cons, wipe2, sl, List.set, List.append_nil, getT, hc2, keyT, hcn i, true_and]
                refine ⟨tyT_dic hc2, ?_⟩
                simp only [addT, List.all_cons, List.all_nil, keyT, Option.isSome_some, Bool.and_self, List.length_cons, List.length_nil, true_and]
                refine ⟨by decide, fun a ha => ?_⟩
                have hac : a ≠ ca := fresh_ne hc2 ha
                simp only [updT, gup_same, gup_ne hac.symm, hc2]
                refine ⟨hac.symm, by rw [show (dmerge [] [(T.int (i : Int), T.int ((cntL ls fs i : Int) + 1))]).length = 1 from rfl]; exact hz _ (by omega), hR3 _ ((Sub.gup ha).gup2)⟩
              · have hc3 : gup G2 ca (.dic (dput cm (.int (i : Int)) (.int (cntL ls fs i + 1 : Int)))) f1 = some (.lst (fs.map T.str)) := by rw [gup_ne hfc]; exact hf2
                simp only [lIfS, lAnd, lOr, lNot, lB, lOp, lVar, lC, lCons, lNil, lTup, lLst, lUn, lCB, lAsg, gN, lSet, lRet, lRetN, lDrop, lNext, lIf, lBM, lFor, lLc, lDc, lIt, lRg1, lRg2, lEnum, lZip, lMeth, lCall, lProp, lFld, lFldS, lGlob, lIsi2, lChain, lSl, lSome, lNo, lAndV, lOrV, lNotV, lPar, lPar3, lMake, lDisp, lPCons, lPNil, lYes, lPTup, lUnP, lPIx, unP, gT, gCons2, gNil2, slotsOf_nil, slotsOf_cons, wipe2, sl, List.set, List.append_nil]
                refine ⟨tyT_lst hc3, ?_⟩
                simp only [insT, hc3]
                refine ⟨by rw [sizeLine_eq, List.length_map]; omega, by decide, ?_⟩
                refine hR2 _ _ _ (Sub.refl _) ⟨_, _, bs', b :: fs, dput cm (.int (i : Int)) (.int (cntL ls fs i + 1 : Int)), rfl, (sb2.set hc0).set hf0, gup_same, by rw [gup_ne hfc.symm, gup_same], rfl, fun c hc => hok2 c (List.mem_cons_of_mem _ hc), fun c hc => ?_, ?_, by rw [List.length_cons] at hl1 ⊢; omega, ?_, fun k => ?_⟩
                · rcases List.mem_cons.mp hc with rfl | hc
                  · exact hb2
                  · exact hofs c hc
                · rw [← hb, List.foldl_cons, bestS, if_neg hin, hi]
                  simp only [if_pos hc]
                · have := dput_le cm (.int (i : Int)) (.int (cntL ls fs i + 1 : Int))
                  rw [List.length_cons] at hl2
                  omega
                · rw [dlook_put]
                  by_cases e : i = k
                  · subst e
                    rw [if_pos rfl]
                    simp [cntL, hi]
                  · rw [if_neg (by simp; omega), hcn k]
                    simp [cntL, hi, e]
            · refine cast (if_neg (by simp; omega)).symm ?_
              refine hR2 _ _ _ (Sub.refl _) ⟨_, _, bs', fs, cm, rfl, sb2, hf2, hc2, rfl, fun c hc => hok2 c (List.mem_cons_of_mem _ hc), hofs, ?_, by rw [List.length_cons] at hl1; omega, by rw [List.length_cons] at hl2; omega, hcn⟩
              rw [← hb, List.foldl_cons, bestS, if_neg hin, hi]
              simp only [if_neg hc]
  · simp only [lIfS, lAnd, lOr, lNot, lB, lOp, lVar, lC, lCons, lNil, lTup, lLst, lUn, lCB, lAsg, gN, lSet, lRet, lRetN, lDrop, lNext, lIf, lBM, lFor, lLc, lDc, lIt, lRg1, lRg2, lEnum, lZip, lMeth, lCall, lProp, lFld, lFldS, lGlob, lIsi2, lChain, lSl, lSome, lNo, lAndV, lOrV, lNotV, lPar, lPar3, lMake, lDisp, lPCons, lPNil, lYes, lPTup, lUnP, lPIx, unP, gT, gCons2, gNil2, slotsOf_nil, slotsOf_cons, wipe2, sl, List.set, List.append_nil]
    refine ⟨Nat.zero_le _, fun f1 hf1 => fun ca hca => ?_⟩
    have hcf : ca ≠ f1 := fresh_ne gup_same hca
    refine hR _ _ _ (Sub.refl _) ⟨f1, ca, rfl, (Sub.gup hf1).trans (Sub.gup hca), hf1, (Sub.gup hf1).fresh hca, hcf.symm, by rw [gup_ne hcf.symm, gup_same], gup_same⟩
end K16
namespace K16
open PySem PySem.Spec PyProof.Rows L2 Dv
/-! ### plain law: a cache of few ways is the head of a stack -/
theorem filt_take {b : Str} : ∀ (U : List Str) (k : Nat), U.Nodup → ((U.take (k + 1)).filter fun o => decide (o ≠ b)).take k = (U.filter fun o => decide (o ≠ b)).take k
  | [], k, _ => rfl
  | x :: U, k, h => by
    have hx := (List.nodup_cons.mp h).1
    have hU := (List.nodup_cons.mp h).2
    by_cases e : x = b
    · subst e
      have h1 : ∀ l : List Str, (∀ s ∈ l, s ∈ U) → l.filter (fun o => decide (o ≠ x)) = l := fun l hl => List.filter_eq_self.mpr fun s hs => by
        have : s ≠ x := fun z => hx (z ▸ hl s hs)
        simpa using this
      have h2 : ∀ l : List Str, (x :: l).filter (fun o => decide (o ≠ x)) = l.filter (fun o => decide (o ≠ x)) := fun l => by simp
      rw [List.take_succ_cons, h2, h2, h1 _ (fun s hs => List.mem_of_mem_take hs), h1 U (fun s hs => hs), List.take_take, Nat.min_self]
    · have h2 : ∀ l : List Str, (x :: l).filter (fun o => decide (o ≠ b)) = x :: l.filter (fun o => decide (o ≠ b)) := fun l => by simp [e]
      rw [List.take_succ_cons, h2, h2]
      cases k with
      | zero => rfl
      | succ k => rw [List.take_succ_cons, List.take_succ_cons, filt_take U k hU]
theorem touch_take {b : Str} {w : Nat} {U : List Str} (hw : 1 ≤ w) (h : U.Nodup) : touchL b w (U.take w) = (frontL b U).take w := by
  obtain ⟨k, rfl⟩ : ∃ k, w = k + 1 := ⟨w - 1, by omega⟩
  rw [touchL, frontL, List.take_succ_cons, List.take_succ_cons, filt_take U k h]
def takeR (w : Nat) (U : Rows) : Rows := fun i => (U i).take w
def NdR (U : Rows) : Prop := ∀ i, (U i).Nodup
theorem nd_front {b : Str} {l : List Str} (h : l.Nodup) : (frontL b l).Nodup := by
  unfold frontL
  exact List.nodup_cons.mpr ⟨fun z => by simpa using (List.mem_filter.mp z).2, h.sublist List.filter_sublist⟩
theorem NdR.full {ls : Lay} {U : Rows} {b : Str} (h : NdR U) : NdR (fullR ls U b) := by
  intro i
  unfold fullR
  cases ls.lookup b with
  | none => exact h i
  | some j =>
    simp only [setR]
    split
    · exact nd_front (h _)
    · exact h i
theorem step_take {ls : Lay} {w : Nat} {U : Rows} {b : Str} (hw : 1 ≤ w) (h : NdR U) : stepR ls w (takeR w U) b = takeR w (fullR ls U b) := by
  unfold stepR fullR
  cases ls.lookup b with
  | none => rfl
  | some i =>
    funext j
    simp only [setR, takeR]
    split
    · exact touch_take hw (h i)
    · rfl
def fullRun (ls : Lay) (U : Rows) (bs : List Str) : Rows := bs.foldl (fullR ls) U
theorem NdR.run {ls : Lay} : ∀ {bs : List Str} {U : Rows}, NdR U → NdR (fullRun ls U bs)
  | [], _, h => h
  | _ :: bs, _, h => NdR.run (bs := bs) h.full
theorem run_take {ls : Lay} {w : Nat} (hw : 1 ≤ w) : ∀ {bs : List Str} {U : Rows}, NdR U → runR ls w (takeR w U) bs = takeR w (fullRun ls U bs)
  | [], _, _ => rfl
  | b :: bs, U, h => by
    show runR ls w (stepR ls w (takeR w U) b) bs = takeR w (fullRun ls (fullR ls U b) bs)
    rw [step_take hw h, run_take hw h.full]
/-- the stack from any start, by the stack from none -/
def relL (U0 D : List Str) : List Str := D ++ U0.filter fun s => decide (s ∉ D)
def relR (U0 D : Rows) : Rows := fun i => relL (U0 i) (D i)
theorem rel_nil {U0 : Rows} : relR U0 (fun _ => []) = U0 := by
  funext i
  simp only [relR, relL, List.nil_append]
  exact List.filter_eq_self.mpr fun s _ => by simp
theorem rel_front {b : Str} {U0 D : List Str} : frontL b (relL U0 D) = relL U0 (frontL b D) := by
  simp only [frontL, relL, List.filter_append, List.cons_append, List.filter_filter]
  congr 2
  refine List.filter_congr fun s _ => ?_
  by_cases e : s = b <;> simp [e]
theorem rel_full {ls : Lay} {U0 D : Rows} {b : Str} : fullR ls (relR U0 D) b = relR U0 (fullR ls D b) := by
  unfold fullR
  cases ls.lookup b with
  | none => rfl
  | some i =>
    funext j
    simp only [setR, relR]
    split
    · rename_i e; subst e; exact rel_front
    · rfl
theorem rel_nd {U0 D : Rows} (h0 : NdR U0) (h : NdR D) : NdR (relR U0 D) := fun i => by
  refine List.nodup_append.mpr ⟨h i, (h0 i).sublist List.filter_sublist, fun a ha b hb z => ?_⟩
  subst z
  have := (List.mem_filter.mp hb).2
  simp at this
  exact this ha
theorem mem_take {b : Str} : ∀ {l : List Str} {w : Nat}, b ∈ l.take w ↔ b ∈ l ∧ l.idxOf b < w
  | [], w => by simp
  | x :: l, 0 => by simp
  | x :: l, w + 1 => by
    rw [List.take_succ_cons, List.mem_cons, mem_take, List.mem_cons, List.idxOf_cons]
    by_cases e : x = b
    · subst e; simp
    · have e2 : ¬ b = x := fun z => e z.symm
      have e3 : (x == b) = false := beq_eq_false_iff_ne.mpr e
      simp [e2, e3]
/-- what a hit and a told distance have to do with each other -/
def PairOk (w : Nat) (hit : Bool) (t : T) : Prop := ∃ d : Nat, (t = .tup [.str "since", .int (d : Int)] ∧ hit = decide (d < w)) ∨ (t = .tup [.str "start", .int (d : Int)] ∧ (w ≤ d → hit = false))
theorem pair_ok {b : Str} {w : Nat} {U0 D : List Str} : PairOk w (decide (b ∈ (relL U0 D).take w)) (distOf b D) := by
  unfold distOf
  by_cases h : b ∈ D
  · rw [if_pos h]
    refine ⟨_, .inl ⟨rfl, ?_⟩⟩
    rw [decide_eq_decide, mem_take, relL, List.idxOf_append, if_pos h]
    exact ⟨fun z => z.2, fun z => ⟨List.mem_append.mpr (.inl h), z⟩⟩
  · rw [if_neg h]
    refine ⟨_, .inr ⟨rfl, fun hw => ?_⟩⟩
    rw [decide_eq_false_iff_not, mem_take, relL, List.idxOf_append, if_neg h]
    omega

/-! ### the best start -/
def hm (ls : Lay) (i : Nat) (l : List Str) : List Str := l.filter fun s => decide (ls.lookup s = some i)
theorem run_nd {ls : Lay} : ∀ (F pre : List Str), (pre ++ F).Nodup → fullRun ls (fun i => (hm ls i pre).reverse) F = fun i => (hm ls i (pre ++ F)).reverse
  | [], pre, _ => by rw [List.append_nil]; rfl
  | b :: F, pre, h => by
    have hb : b ∉ pre := fun z => by
      have := (List.nodup_append.mp h).2.2 b z b List.mem_cons_self
      exact this rfl
    have e : fullR ls (fun i => (hm ls i pre).reverse) b = fun i => (hm ls i (pre ++ [b])).reverse := by
      funext i
      unfold fullR
      cases hl : ls.lookup b with
      | none => simp [hm, hl]
      | some j =>
        simp only [setR]
        by_cases e : i = j
        · subst e
          rw [if_pos rfl, frontL, List.filter_eq_self.mpr fun s hs => by
            have hs := (List.mem_filter.mp (List.mem_reverse.mp hs)).1
            have : s ≠ b := fun z => hb (z ▸ hs)
            simpa using this]
          simp [hm, hl]
        · have e2 : ¬ j = i := fun z => e z.symm
          rw [if_neg e]
          simp [hm, hl, e2]
    show fullRun ls (fullR ls (fun i => (hm ls i pre).reverse) b) F = _
    rw [e, run_nd F (pre ++ [b]) (by rw [List.append_assoc]; exact h), List.append_assoc]
    rfl
theorem best_nd {ls : Lay} {w : Nat} : ∀ (bs fs : List Str), fs.Nodup → (bs.foldl (bestS ls w) fs).Nodup ∧ ∃ l, bs.foldl (bestS ls w) fs = l ++ fs
  | [], fs, h => ⟨h, [], rfl⟩
  | b :: bs, fs, h => by
    have key : (bestS ls w fs b).Nodup ∧ ∃ l, bestS ls w fs b = l ++ fs := by
      unfold bestS
      split
      · exact ⟨h, [], rfl⟩
      · rename_i hb
        split
        · split
          · exact ⟨List.nodup_cons.mpr ⟨hb, h⟩, [b], rfl⟩
          · exact ⟨h, [], rfl⟩
        · exact ⟨h, [], rfl⟩
    obtain ⟨h1, l1, e1⟩ := key
    obtain ⟨h2, l2, e2⟩ := best_nd (ls := ls) (w := w) bs _ h1
    exact ⟨h2, l2 ++ l1, by rw [List.foldl_cons, e2, e1, List.append_assoc]⟩
def startU (ls : Lay) (F : List Str) : Rows := fun i => (hm ls i F).reverse
structure Agree (ls : Lay) (w : Nat) (D : Rows) (fs : List Str) : Prop where
  a : ∀ s ∈ fs, ∀ i, ls.lookup s = some i → s ∈ D i
  b : ∀ i, cntL ls fs i < w → ∀ s ∈ D i, s ∈ fs
  c : ∀ i, cntL ls fs i ≤ (D i).length
theorem front_len {b : Str} {l : List Str} : b ∉ l → (frontL b l).length = l.length + 1 := by
  intro h
  rw [frontL, List.length_cons, List.filter_eq_self.mpr fun s hs => by
    have : s ≠ b := fun z => h (z ▸ hs)
    simpa using this]
theorem front_mem {b s : Str} {l : List Str} : s ∈ frontL b l ↔ s = b ∨ s ∈ l := by
  simp only [frontL, List.mem_cons, List.mem_filter, decide_eq_true_eq]
  by_cases e : s = b <;> simp [e]
theorem front_le {b : Str} {l : List Str} : l.Nodup → l.length ≤ (frontL b l).length := by
  induction l with
  | nil => intro _; exact Nat.zero_le _
  | cons x l ih =>
    intro h
    have ih := ih (List.nodup_cons.mp h).2
    have hx := (List.nodup_cons.mp h).1
    simp only [frontL, List.length_cons] at ih ⊢
    by_cases e : x = b
    · subst e
      rw [List.filter_cons_of_neg (by simp), List.filter_eq_self.mpr fun s hs => by
        have : s ≠ x := fun z => hx (z ▸ hs)
        simpa using this]
      omega
    · rw [List.filter_cons_of_pos (by simpa using e), List.length_cons]
      omega
def nearT (w : Nat) : T → Bool
  | .tup [_, .int d] => decide (d < (w : Int))
  | _ => false
theorem best_hits {ls : Lay} {w : Nat} : ∀ (bs fs : List Str) (D : Rows), (∀ b ∈ bs, (ls.lookup b).isSome = true) → fs.Nodup → NdR D → Agree ls w D fs →
    (1 ≤ w → hitsL ls w (takeR w (relR (startU ls (bs.foldl (bestS ls w) fs)) D)) bs = (distsL ls D bs).map (nearT w)) := by
  intro bs
  induction bs with
  | nil => intros; rfl
  | cons b bs ih =>
    intro fs D hl hfs hD hA hw
    obtain ⟨i, hi⟩ := Option.isSome_iff_exists.mp (hl b List.mem_cons_self)
    have hF := best_nd (ls := ls) (w := w) (b :: bs) fs hfs
    have hF1 := best_nd (ls := ls) (w := w) [b] fs hfs
    have hF2 := best_nd (ls := ls) (w := w) bs _ hF1.1
    have hU : NdR (startU ls ((b :: bs).foldl (bestS ls w) fs)) := fun j => by
      exact List.pairwise_reverse.mpr ((hF.1.sublist List.filter_sublist).imp fun h => h.symm)
    have hsub : ∀ s ∈ fs, s ∈ bestS ls w fs b := fun s hs => by
      obtain ⟨l, e⟩ := hF1.2
      rw [show bestS ls w fs b = l ++ fs from e]
      exact List.mem_append.mpr (.inr hs)
    have hcnt : ∀ j, cntL ls fs j ≤ cntL ls (bestS ls w fs b) j := fun j => by
      obtain ⟨l, e⟩ := hF1.2
      rw [show bestS ls w fs b = l ++ fs from e]
      simp [cntL]
    have hmem : ∀ s ∈ bestS ls w fs b, s ∈ fs ∨ s = b := fun s hs => by
      simp only [bestS, hi] at hs
      split at hs
      · exact .inl hs
      · split at hs
        · exact (List.mem_cons.mp hs).symm
        · exact .inl hs
    have hfull : fullR ls D b = setR D i (frontL b (D i)) := by simp only [fullR, hi]
    have hA2 : Agree ls w (fullR ls D b) (bestS ls w fs b) := by
      rw [hfull]
      refine ⟨fun s hs j hj => ?_, fun j hj s hs => ?_, fun j => ?_⟩
      · simp only [setR]
        rcases hmem s hs with h | rfl
        · have := hA.a s h j hj
          split
          · rename_i e; subst e; exact front_mem.mpr (.inr this)
          · exact this
        · rw [hi] at hj
          injection hj with hj
          rw [if_pos hj.symm]
          exact front_mem.mpr (.inl rfl)
      · have hc := hA.b j (Nat.lt_of_le_of_lt (hcnt j) hj)
        simp only [setR] at hs
        split at hs
        · rename_i e
          subst e
          rcases front_mem.mp hs with rfl | h
          · by_cases hb : s ∈ fs
            · exact hsub s hb
            · unfold bestS
              rw [if_neg hb, hi]
              simp only [if_pos (Nat.lt_of_le_of_lt (hcnt j) hj)]
              exact List.mem_cons_self
          · exact hsub s (hc s h)
        · exact hsub s (hc s hs)
      · have h0 := hA.c j
        simp only [setR]
        by_cases hb : b ∈ fs
        · rw [show bestS ls w fs b = fs by unfold bestS; rw [if_pos hb]]
          split
          · rename_i e; subst e; exact Nat.le_trans h0 (front_le (hD j))
          · exact h0
        · by_cases hc : cntL ls fs i < w
          · rw [show bestS ls w fs b = b :: fs by unfold bestS; rw [if_neg hb, hi]; simp only [if_pos hc]]
            by_cases e : j = i
            · subst e
              have hbD : b ∉ D j := fun z => hb (hA.b j hc b z)
              rw [if_pos rfl, front_len hbD]
              simp only [cntL, List.filter_cons, hi, decide_true, if_true, List.length_cons] at h0 ⊢
              omega
            · have e2 : ¬ i = j := fun z => e z.symm
              rw [if_neg e]
              simpa [cntL, List.filter_cons, hi, e2] using h0
          · rw [show bestS ls w fs b = fs by unfold bestS; rw [if_neg hb, hi]; simp only [if_neg hc]]
            split
            · rename_i e; subst e; exact Nat.le_trans h0 (front_le (hD j))
            · exact h0
    have ih := ih _ _ (fun c hc => hl c (List.mem_cons_of_mem _ hc)) hF1.1 hD.full hA2 hw
    simp only [hitsL, distsL, hi, List.map_cons]
    rw [step_take hw (rel_nd hU hD), rel_full]
    rw [List.foldl_cons]
    refine congr (congrArg _ ?_) ih
    show decide (b ∈ (relL (startU ls (bs.foldl (bestS ls w) (bestS ls w fs b)) i) (D i)).take w) = nearT w (distOf b (D i))
    unfold distOf
    by_cases hb : b ∈ D i
    · rw [if_pos hb, nearT, decide_eq_decide, mem_take, relL, List.idxOf_append, if_pos hb]
      exact ⟨fun z => by omega, fun z => ⟨List.mem_append.mpr (.inl hb), by omega⟩⟩
    · rw [if_neg hb, nearT, decide_eq_decide, mem_take]
      constructor
      · rintro ⟨_, h⟩
        rw [relL, List.idxOf_append, if_neg hb] at h
        omega
      · intro h
        have hbf : b ∉ fs := fun z => hb (hA.a b z i hi)
        have hc : cntL ls fs i < w := by have := hA.c i; omega
        have e1 : bestS ls w fs b = b :: fs := by unfold bestS; rw [if_neg hbf, hi]; simp only [if_pos hc]
        obtain ⟨l, e2⟩ := hF2.2
        rw [show List.foldl (bestS ls w) fs [b] = b :: fs from e1] at e2
        rw [e1, e2]
        have e3 : (startU ls (l ++ b :: fs) i).filter (fun s => decide (s ∉ D i)) = b :: ((hm ls i l).reverse.filter fun s => decide (s ∉ D i)) := by
          have e4 : hm ls i (l ++ b :: fs) = hm ls i l ++ b :: hm ls i fs := by simp [hm, hi]
          have e5 : (hm ls i fs).reverse.filter (fun s => decide (s ∉ D i)) = [] := by
            refine List.filter_eq_nil_iff.mpr fun s hs => ?_
            have hs := List.mem_filter.mp (List.mem_reverse.mp hs)
            have := hA.a s hs.1 i (by simpa using hs.2)
            simpa using this
          rw [startU, e4, List.reverse_append, List.reverse_cons, List.append_assoc, List.filter_append, e5, List.nil_append, List.singleton_append, List.filter_cons_of_pos (by simpa using hb)]
        rw [relL, e3]
        refine ⟨List.mem_append.mpr (.inr List.mem_cons_self), ?_⟩
        rw [List.idxOf_append, if_neg hb, List.idxOf_cons_self]
        omega
/-- the law's first question -/
theorem best_law {ls : Lay} {w : Nat} {bs : List Str} (hl : ∀ b ∈ bs, (ls.lookup b).isSome = true) (hw : 1 ≤ w) : hitsL ls w (runR ls w (fun _ => []) (bestL ls w bs)) bs = (distsL ls (fun _ => []) bs).map (nearT w) := by
  have h := best_hits (ls := ls) (w := w) bs [] (fun _ => []) hl List.nodup_nil (fun _ => List.nodup_nil) ⟨fun s hs => by simp at hs, fun i _ s hs => by simp at hs, fun i => Nat.zero_le _⟩ hw
  rw [rel_nil] at h
  rw [← h]
  have hn : (bestL ls w bs).Nodup := (best_nd (ls := ls) (w := w) bs [] List.nodup_nil).1
  have h2 := run_nd (ls := ls) (bestL ls w bs) [] hn
  have h3 := run_take (ls := ls) (w := w) (bs := bestL ls w bs) (U := fun _ => []) hw (fun _ => List.nodup_nil)
  have e : takeR w (fun _ => []) = fun _ => [] := by funext i; simp [takeR]
  rw [e] at h3
  rw [h3]
  have e2 : fullRun ls (fun _ => []) (bestL ls w bs) = startU ls (bestL ls w bs) := h2
  rw [e2]
  rfl
end K16
namespace K16
open PySem PySem.Spec PyProof.Rows L2 Dv
variable {P : Program} {w : World} {K : Fr0} {mg : Str → Option Value} {base : Heap} {CP : Addr}
/-! ### the law's state -/
def spLawT : Sp2 := fun ts G Φ _ => ∃ a, ts = [.ref a] ∧ (∀ d n, G d ≠ some (.drw n)) ∧ Φ (.bl true) G
structure LSt (G G2 : Gp) (dr : Addr) (n : Nat) : Prop where
  sb : Sub G G2
  hd : G2 dr = some (.drw n)
  fd : G dr = none
theorem LSt.take {G G2 : Gp} {dr : Addr} {n : Nat} (h : LSt G G2 dr n) : LSt G (gup G2 dr (.drw (n + 1))) dr (n + 1) := ⟨fun b o e => by
  rw [gup_ne (fun z => by rw [z, h.fd] at e; cases e)]
  exact h.sb b o e, gup_same, h.fd⟩
theorem LSt.up {G G2 G3 : Gp} {dr : Addr} {n : Nat} (h : LSt G G2 dr n) (s : Sub G2 G3) : LSt G G3 dr n := ⟨h.sb.trans s, s _ _ h.hd, h.fd⟩
theorem LSt.x {G G2 G3 : Gp} {dr : Addr} {n m : Nat} (h : LSt G G2 dr n) (s : SubX dr G2 G3) (hd : G3 dr = some (.drw m)) : LSt G G3 dr m := ⟨fun b o e => s b o (fun z => by rw [z, h.fd] at e; cases e) (h.sb b o e), hd, h.fd⟩
/-- what stands beside the draws -/
structure At (dr : Addr) (G : Gp) (a : Addr) (o : O) : Prop where
  ne : a ≠ dr
  at_ : G a = some o
theorem At.up {dr a : Addr} {G G' : Gp} {o : O} (h : At dr G a o) (s : Sub G G') : At dr G' a o := ⟨h.ne, s _ _ h.at_⟩
theorem At.x {dr a : Addr} {G G' : Gp} {o : O} (h : At dr G a o) (s : SubX dr G G') : At dr G' a o := ⟨h.ne, s _ _ h.ne h.at_⟩
theorem At.draw {dr a : Addr} {G : Gp} {o u : O} (h : At dr G a o) : At dr (gup G dr u) a o := ⟨h.ne, by rw [gup_ne h.ne]; exact h.at_⟩
theorem SubX.one {dr : Addr} {G : Gp} {u : O} : SubX dr G (gup G dr u) := (SubX.refl G).draw
theorem At.new {dr p : Addr} {G : Gp} {o u : O} (hd : G dr = some u) (hp : G p = none) : At dr (gup G p o) p o := ⟨fresh_ne hd hp, gup_same⟩

theorem knK_hits_of (V : Env K mg CP) : KnK P w K mg base 7 "hits_of" 3 "start" (spHits CP) := (knp_hits_of V).1
/-- the bricks of a turn -/
structure GoodB (bl : List Str) : Prop where
  len : 1 ≤ bl.length ∧ bl.length ≤ 8
  nd : bl.Nodup
  ok : ∀ s ∈ bl, isName s = true ∧ PyData.strOk s = true
theorem words_nd : words.Nodup := by decide +kernel
theorem goodB {us : List Str} {m : Nat} (h : us.Perm words) (h1 : 1 ≤ m) (h8 : m ≤ 8) : GoodB (us.take m) := by
  have hl : us.length = 12 := h.length_eq
  refine ⟨by rw [List.length_take, hl]; omega, ?_, fun s hs => words_ok s (h.subset (List.mem_of_mem_take hs))⟩
  exact (h.nodup_iff.mpr words_nd).sublist (List.take_sublist _ _)
def pairsL (ls : Lay) : List T := ls.map fun q => T.tup [.str q.1, .int (q.2 : Int)]
theorem pairs_lay : ∀ ls : Lay, pairsT (pairsL ls) = some (layT ls)
  | [] => rfl
  | q :: ls => by simp only [pairsL, layT, List.map_cons, pairsT, keyT] at *; rw [show pairsT (List.map (fun q : Str × Nat => T.tup [.str q.1, .int (q.2 : Int)]) ls) = some (layT ls) from pairs_lay ls]; rfl
theorem merge_lay : ∀ (ls pre : Lay), ((pre ++ ls).map (·.1)).Nodup → dmerge (layT pre) (layT ls) = layT (pre ++ ls)
  | [], pre, _ => by rw [List.append_nil]; rfl
  | q :: ls, pre, h => by
    have hq : q.1 ∉ pre.map (·.1) := fun z => by
      rw [List.map_append, List.map_cons] at h
      exact (List.nodup_append.mp h).2.2 _ z _ List.mem_cons_self rfl
    show dmerge (dput (layT pre) (.str q.1) (.int (q.2 : Int))) (layT ls) = _
    rw [dput_lay hq, merge_lay ls (pre ++ [q]) (by rw [List.append_assoc]; exact h), List.append_assoc]
    rfl
theorem picks_le {x0 x2 x4 x5 x6 x7 x8 x9 x10 x11 x12 x13 x14 x15 x16 x17 : Option T} {dr bk : Addr} {bl : List Str} {G G2 : Gp} {n k : Nat} {kk : Int} {Φ : QT} (hk : kk = (k : Int)) (h1 : 1 ≤ k) (h2 : k ≤ 31) (hn : n + 40 < mostDraws) (ls : LSt G G2 dr n) (hb : At dr G2 bk (.lst (bl.map T.str))) (hbl : 1 ≤ bl.length ∧ bl.length ≤ 8)
    (q : ∀ (p : Addr) (G' : Gp) (bs : List Str) (n' : Nat), LSt G G' dr n' → n' ≤ n + k → SubX dr G2 G' → G2 p = none → At dr G' p (.lst (bs.map T.str)) → bs.length < k → (∀ b ∈ bs, b ∈ bl) → Φ (.ref p) G') :
    lLc (lRg1 (lCons (lCall spTake [] noX (lCons (lVar 1) (lCons (lC (.int kk)) lNil))) lNil)) (gN 8) (slotsOf [(("_law_step" : Str), 8)]) lYes (lCall spPick [] noX (lCons (lVar 1) (lCons (lVar 3) lNil)))
      [x0, some (.ref dr), x2, some (.ref bk), x4, x5, x6, x7, x8, x9, x10, x11, x12, x13, x14, x15, x16, x17] G2 Φ := by
  subst hk
  have hmd : mostDraws = 10 ^ 9 := rfl
  simp only [lIfS, lAnd, lOr, lNot, lB, lOp, lVar, lC, lCons, lNil, lTup, lLst, lUn, lCB, lAsg, gN, lSet, lRet, lRetN, lDrop, lNext, lIf, lBM, lFor, lLc, lDc, lIt, lRg1, lRg2, lEnum, lZip, lMeth, lCall, lProp, lFld, lFldS, lGlob, lIsi2, lChain, lSl, lSome, lNo, lAndV, lOrV, lNotV, lPar, lPar3, lMake, lDisp, lPCons, lPNil, lYes, lPTup, lUnP, lPIx, unP, gT, gCons2, gNil2, slotsOf_nil, slotsOf_cons, wipe2, sl, List.set, List.append_nil]
  refine ⟨dr, (k : Int), n, rfl, ls.hd, by omega, by omega, fun r h0 hr => ?_⟩
  obtain ⟨j, rfl⟩ := Int.eq_ofNat_of_zero_le h0
  refine ⟨by omega, ?_⟩
  refine lcW_ind (I := fun r acc G3 => ∃ bs n', LSt G G3 dr n' ∧ n' + r.length ≤ n + 1 + j ∧ SubX dr G2 G3 ∧ acc = bs.map T.str ∧ bs.length + r.length = j ∧ ∀ b ∈ bs, b ∈ bl) (fun acc G3 h => ?_) (fun t r acc G3 h => ?_) _ _ _ ⟨[], n + 1, ls.take, ?_, SubX.one, rfl, ?_, by simp⟩
  · obtain ⟨bs, n', ls3, hn', sx, rfl, hl, hm⟩ := h
    refine ⟨trivial, fun p hp => ?_⟩
    refine q p _ bs n' (ls3.up (Sub.gup hp)) (by simp at hn'; omega) (sx.sub (Sub.gup hp)) (sx.fresh (fresh_ne ls3.hd hp) hp) (At.new ls3.hd hp) (by simp at hl; omega) hm
  · obtain ⟨bs, n', ls3, hn', sx, rfl, hl, hm⟩ := h
    refine ⟨trivial, _, rfl, fun R hR => ?_⟩
    simp only [lIfS, lAnd, lOr, lNot, lB, lOp, lVar, lC, lCons, lNil, lTup, lLst, lUn, lCB, lAsg, gN, lSet, lRet, lRetN, lDrop, lNext, lIf, lBM, lFor, lLc, lDc, lIt, lRg1, lRg2, lEnum, lZip, lMeth, lCall, lProp, lFld, lFldS, lGlob, lIsi2, lChain, lSl, lSome, lNo, lAndV, lOrV, lNotV, lPar, lPar3, lMake, lDisp, lPCons, lPNil, lYes, lPTup, lUnP, lPIx, unP, gT, gCons2, gNil2, slotsOf_nil, slotsOf_cons, wipe2, sl, List.set, List.append_nil, if_true]
    rw [List.length_cons] at hn' hl
    refine ⟨dr, bk, n', _, rfl, ls3.hd, (hb.x sx).at_, by rw [List.length_map]; omega, by rw [List.length_map]; omega, by omega, fun x hx => ?_⟩
    obtain ⟨b, hb', rfl⟩ := List.mem_map.mp hx
    refine ⟨by rw [sizeLine_eq, List.length_map]; omega, hR _ _ _ (Sub.refl _) ⟨bs ++ [b], n' + 1, ls3.take, by omega, sx.draw, by simp, by simp; omega, fun c hc => ?_⟩⟩
    rcases List.mem_append.mp hc with hc | hc
    · exact hm c hc
    · rw [List.mem_singleton.mp hc]; exact hb'
  · simp <;> omega
  · simp
theorem best_mem {ls : Lay} {w : Nat} {bs : List Str} {s : Str} (h : s ∈ bestL ls w bs) : s ∈ bs := by
  have key : ∀ (bs fs : List Str), s ∈ bs.foldl (bestS ls w) fs → s ∈ fs ∨ s ∈ bs := by
    intro bs
    induction bs with
    | nil => intro fs h; exact .inl h
    | cons b bs ih =>
      intro fs h
      rcases ih _ h with h | h
      · unfold bestS at h
        split at h
        · exact .inl h
        · split at h
          · split at h
            · rcases List.mem_cons.mp h with rfl | h
              · exact .inr List.mem_cons_self
              · exact .inl h
            · exact .inl h
          · exact .inl h
      · exact .inr (List.mem_cons_of_mem _ h)
  rcases key bs [] h with h | h
  · simp at h
  · exact h
theorem dists_len {ls : Lay} : ∀ {bs : List Str} {D : Rows}, (distsL ls D bs).length = bs.length
  | [], _ => rfl
  | b :: bs, D => by rw [distsL, List.length_cons, dists_len, List.length_cons]
theorem dists_form {ls : Lay} : ∀ {bs : List Str} {D : Rows}, (∀ b ∈ bs, (ls.lookup b).isSome = true) → ∀ t ∈ distsL ls D bs, ∃ (s : Str) (d : Nat), t = .tup [.str s, .int (d : Int)]
  | [], _, _, t, h => by simp [distsL] at h
  | b :: bs, D, hl, t, h => by
    obtain ⟨i, hi⟩ := Option.isSome_iff_exists.mp (hl b List.mem_cons_self)
    rw [distsL, hi] at h
    rcases List.mem_cons.mp h with rfl | h
    · by_cases hb : b ∈ D i
      · exact ⟨_, _, if_pos hb⟩
      · exact ⟨_, _, if_neg hb⟩
    · exact dists_form (fun c hc => hl c (List.mem_cons_of_mem _ hc)) t h
theorem cpt_bools : ∀ l m : List Bool, cptT (l.map T.bl) (.tup (m.map T.bl)) = true
  | [], m => by cases m <;> simp [cptT]
  | b :: l, [] => by simp [cptT]
  | b :: l, c :: m => by simp only [List.map_cons, cptT, cpt, cpt_bools l m, Bool.and_self]
theorem neT_bools {G : Gp} {a b : Addr} {l m : List Bool} {Φ : QT} (ha : G a = some (.lst (l.map T.bl))) (hb : G b = some (.lst (m.map T.bl))) (h : Φ (.bl (!decide (l.map T.bl = m.map T.bl))) G) : Dv.neT (.ref a) (.ref b) G Φ := by
  unfold Dv.neT
  rw [if_neg (by simp [scalT])]
  have x1 : ∀ l : List Bool, nrL (l.map T.bl) = true := fun l => nrL_iff.mpr fun t ht => by obtain ⟨b, _, rfl⟩ := List.mem_map.mp ht; simp [nr]
  have x3 : ∀ l : List Bool, dptL (l.map T.bl) ≤ 0 := fun l => dptL_le fun t ht => by obtain ⟨b, _, rfl⟩ := List.mem_map.mp ht; simp [dpt]
  obtain ⟨dx, cx, ex⟩ := nrL_dat (G := G) (l.map T.bl) (x1 l)
  obtain ⟨dy, cy, ey⟩ := nrL_dat (G := G) (m.map T.bl) (x1 m)
  have hx := x3 l
  have hy := x3 m
  refine ⟨.list (pdL (l.map T.bl)), .list (pdL (m.map T.bl)), .lst ha dx, .lst hb dy, shaped_of (by simpa [PyData.canLay0] using cx) (by simp only [PyData.depth, ex]; omega), shaped_of (by simpa [PyData.canLay0] using cy) (by simp only [PyData.depth, ey]; omega), ?_⟩
  have e : PyData.eqv (.list (pdL (l.map T.bl))) (.list (pdL (m.map T.bl))) = decide (l.map T.bl = m.map T.bl) := by
    simp only [PyData.eqv]
    exact eqv_pdL _ _ (x1 l) (x1 m) (cpt_bools l m)
  rw [e]
  exact h
theorem sc_law : FnScope ["_law_script", "_law_draw", "_law_turn", "_law_bricks", "_law_width", "_law_homes", "_law_brick", "_law_seen", "_law_step", "_law_far", "_law_finest", "_law_word", "_law_d", "_law_more", "_law_ahead", "_law_cache", "_law_pair", "_law_is_hit"] ["_law_script"] (defScope (top 30)) := ⟨rfl, rfl, rfl, by decide +kernel, rfl, by decide +kernel, by decide +kernel⟩
theorem law_fn {f : Addr} {fd : FuncData} (F : Fun K "law" "law" (top 30) f fd) (V : Env K mg CP) : FnOk P w K mg base (L2.CX P w) 9 f fd ["_law_script"] (lowScr K spLawT) := by
  refine fnB_of F sc_law rfl fun cdv A outer s H E G Φ ΦE a ns hr ho hn hS hsp => ⟨_, (es_cons (s_set (j := 1) sc_law.nd rfl (by first | exact .inl rfl | exact .inr rfl) (e_knB (kn__law_begin V) hn hS (hr.mono (by decide)) (e_var 0))) (es_cons (s_for (passes_of rfl) rfl (i_rg1 rfl V.b_range (ea_cons e_int ea_nil)) (g_name (j := 2) sc_law.nd rfl (by first | exact .inl rfl | exact .inr rfl)) (es_cons (s_asg (e_tup (ea_cons (e_kn (kn__law_blocks V) (hr.mono (by decide)) (ea_cons (e_var 1) (ea_cons (e_bin o_add e_int (e_kn (kn__law_take V) (hr.mono (by decide)) (ea_cons (e_var 1) (ea_cons e_int ea_nil)))) ea_nil))) (ea_cons (e_bin o_add e_int (e_kn (kn__law_take V) (hr.mono (by decide)) (ea_cons (e_var 1) (ea_cons e_int ea_nil)))) ea_nil))) (g_tup (n := 2) rfl (gs_cons (g_name (j := 3) sc_law.nd rfl (by first | exact .inl rfl | exact .inr rfl)) (gs_cons (g_name (j := 4) sc_law.nd rfl (by first | exact .inl rfl | exact .inr rfl)) gs_nil)))) (es_cons (s_set (j := 5) sc_law.nd rfl (by first | exact .inl rfl | exact .inr rfl) (b_dictE V.b_dict (ea_cons (e_lc [("_law_brick", 6)] sc_law.nd (i_val (e_var 3)) (fun _ _ _ _ _ => (g_name (j := 6) sc_law.nd rfl (by first | exact .inl rfl | exact .inr rfl))) (fun _ _ _ _ _ => ts_nil) (fun _ _ _ _ _ => (e_tup (ea_cons (e_var 6) (ea_cons (e_kn (kn__law_take V) (hr.mono (by decide)) (ea_cons (e_var 1) (ea_cons (e_kn (kn__law_pick V) (hr.mono (by decide)) (ea_cons (e_var 1) (ea_cons (e_lst (ea_cons e_int (ea_cons e_int ea_nil))) ea_nil))) ea_nil))) ea_nil))))) ea_nil))) (es_cons (s_setLc (j := 7) [("_law_step", 8)] sc_law.nd (i_rg1 rfl V.b_range (ea_cons (e_kn (kn__law_take V) (hr.mono (by decide)) (ea_cons (e_var 1) (ea_cons e_int ea_nil))) ea_nil)) (fun _ _ _ _ _ => (g_name (j := 8) sc_law.nd rfl (by first | exact .inl rfl | exact .inr rfl))) (fun _ _ _ _ _ => ts_nil) (fun _ _ _ _ _ => (e_kn (kn__law_pick V) (hr.mono (by decide)) (ea_cons (e_var 1) (ea_cons (e_var 3) ea_nil))))) (es_cons (s_par (j := 9) (k := 10) rfl sc_law.nd rfl rfl (by decide) rfl rfl (ea_cons (e_kn (kn_distances_of V) (hr.mono (by decide)) (ea_cons (e_var 7) (ea_cons (e_var 5) ea_nil))) (ea_cons (e_kn (kn__law_best_start V) (hr.mono (by decide)) (ea_cons (e_var 5) (ea_cons (e_var 7) (ea_cons (e_var 4) ea_nil)))) ea_nil)) rfl) (es_cons (s_if (et_cmp (o_ne hr.u64) (e_knK (knK_hits_of V) (hr.mono (by decide)) (ea_cons (e_var 7) (ea_cons (e_var 5) (ea_cons (e_var 4) ea_nil))) (k_cons (e_var 10) k_nil)) (e_lc [("_law_word", 11), ("_law_d", 12)] sc_law.nd (i_val (e_var 9)) (fun _ _ _ _ _ => (g_tup (n := 2) rfl (gs_cons (g_name (j := 11) sc_law.nd rfl (by first | exact .inl rfl | exact .inr rfl)) (gs_cons (g_name (j := 12) sc_law.nd rfl (by first | exact .inl rfl | exact .inr rfl)) gs_nil)))) (fun _ _ _ _ _ => ts_nil) (fun _ _ _ _ _ => (e_cmp o_lt (e_var 12) (e_var 4))))) (es_one (s_ret e_bl)) es_nil) (es_one (s_for (passes_of rfl) rfl (i_rg1 rfl V.b_range (ea_cons e_int ea_nil)) (g_name (j := 13) sc_law.nd rfl (by first | exact .inl rfl | exact .inr rfl)) (es_cons (s_setLc (j := 14) [("_law_step", 8)] sc_law.nd (i_rg1 rfl V.b_range (ea_cons (e_kn (kn__law_take V) (hr.mono (by decide)) (ea_cons (e_var 1) (ea_cons e_int ea_nil))) ea_nil)) (fun _ _ _ _ _ => (g_name (j := 8) sc_law.nd rfl (by first | exact .inl rfl | exact .inr rfl))) (fun _ _ _ _ _ => ts_nil) (fun _ _ _ _ _ => (e_kn (kn__law_pick V) (hr.mono (by decide)) (ea_cons (e_var 1) (ea_cons (e_var 3) ea_nil))))) (es_cons (s_set (j := 15) sc_law.nd rfl (by first | exact .inl rfl | exact .inr rfl) (e_kiK (knK_Cache___init__ V) (hr.mono (by decide)) (ea_cons (e_var 5) (ea_cons (e_var 4) ea_nil)) (k_cons (e_var 14) k_nil))) (es_cons (s_for (passes_of rfl) rfl (i_zip rfl V.b_zip (ea_cons (e_var 7) (ea_cons (e_var 9) ea_nil))) (g_tup (n := 2) rfl (gs_cons (g_name (j := 6) sc_law.nd rfl (by first | exact .inl rfl | exact .inr rfl)) (gs_cons (g_name (j := 16) sc_law.nd rfl (by first | exact .inl rfl | exact .inr rfl)) gs_nil))) (es_cons (s_set (j := 17) sc_law.nd rfl (by first | exact .inl rfl | exact .inr rfl) (e_km (kn_Cache_touch V) (hr.mono (by decide)) (e_var 15) (ea_cons (e_var 6) ea_nil))) (es_one (s_if (et_w (ew_or (et_w (ew_and (et_cmp o_ge (e_ix hr.u1 (e_var 16) e_int (fun _ _ => rfl)) (e_var 4)) (ew_and1 (et_val (e_var 17))))) (ew_or1 (et_w (ew_and (et_cmp (o_eq hr.u64) (e_ix hr.u1 (e_var 16) e_int (fun _ _ => rfl)) e_str) (ew_and1 (et_cmp (o_ne hr.u64) (e_var 17) (e_cmp o_lt (e_ix hr.u1 (e_var 16) e_int (fun _ _ => rfl)) (e_var 4))))))))) (es_one (s_ret e_bl)) es_nil)))) (es_one (s_if (et_cmp (o_ne hr.u64) (e_knK (knK_hits_of V) (hr.mono (by decide)) (ea_cons (e_var 7) (ea_cons (e_var 5) (ea_cons (e_var 4) ea_nil))) (k_cons (e_var 14) k_nil)) (e_kn (kn__law_hits V) (hr.mono (by decide)) (ea_cons (e_var 5) (ea_cons (e_var 7) (ea_cons (e_var 4) (ea_cons (e_var 14) ea_nil)))))) (es_one (s_ret e_bl)) es_nil))))))))))))) (es_one (s_ret e_bl)))), ?_⟩
  obtain ⟨a', e', hnd, q⟩ := hsp
  have hz : ∀ m : Nat, m ≤ 20000 → m ≤ sizeLine := fun m h => by rw [sizeLine_eq]; omega
  have hmd : mostDraws = 10 ^ 9 := rfl
  show lSeq _ _ _ [some (.ref a), none, none, none, none, none, none, none, none, none, none, none, none, none, none, none, none, none] _
  refine sq (M := fun S' G' => ∃ dr, S' = [some (.ref a), some (.ref dr), none, none, none, none, none, none, none, none, none, none, none, none, none, none, none, none] ∧ LSt G G' dr 0) ?_ (fun R hR => ?_)
  · rintro S' G' ⟨dr, rfl, ls⟩
    refine sq (M := fun S' G' => Sub G G') (fun S' G' sb => ?_) (fun R hR => ?_)
    · simp only [lIfS, lAnd, lOr, lNot, lB, lOp, lVar, lC, lCons, lNil, lTup, lLst, lUn, lCB, lAsg, gN, lSet, lRet, lRetN, lDrop, lNext, lIf, lBM, lFor, lLc, lDc, lIt, lRg1, lRg2, lEnum, lZip, lMeth, lCall, lProp, lFld, lFldS, lGlob, lIsi2, lChain, lSl, lSome, lNo, lAndV, lOrV, lNotV, lPar, lPar3, lMake, lDisp, lPCons, lPNil, lYes, lPTup, lUnP, lPIx, unP, gT, gCons2, gNil2, slotsOf_nil, slotsOf_cons, wipe2, sl, List.set, List.append_nil]
      exact rtF.sub sb q
    · simp only [lIfS, lAnd, lOr, lNot, lB, lOp, lVar, lC, lCons, lNil, lTup, lLst, lUn, lCB, lAsg, gN, lSet, lRet, lRetN, lDrop, lNext, lIf, lBM, lFor, lLc, lDc, lIt, lRg1, lRg2, lEnum, lZip, lMeth, lCall, lProp, lFld, lFldS, lGlob, lIsi2, lChain, lSl, lSome, lNo, lAndV, lOrV, lNotV, lPar, lPar3, lMake, lDisp, lPCons, lPNil, lYes, lPTup, lUnP, lPIx, unP, gT, gCons2, gNil2, slotsOf_nil, slotsOf_cons, wipe2, sl, List.set, List.append_nil]
      refine ⟨by decide, ?_⟩
      refine forW_ind (I := fun r S2 G2 => ∃ n t2 t3 t4 t5 t6 t7 t8 t9 t10 t11 t12 t13 t14 t15 t16 t17, S2 = [some (.ref a), some (.ref dr), t2, t3, t4, t5, t6, t7, t8, t9, t10, t11, t12, t13, t14, t15, t16, t17] ∧ LSt G G2 dr n ∧ n + 200 * r.length ≤ 600)
        (fun S2 G2 h => ?_) (fun t r S2 G2 h => ?_) _ _ _ ⟨0, none, none, none, none, none, none, none, none, none, none, none, none, none, none, none, none, rfl, ls, by decide⟩
      · obtain ⟨n, t2, t3, t4, t5, t6, t7, t8, t9, t10, t11, t12, t13, t14, t15, t16, t17, rfl, ls, _⟩ := h
        exact ⟨trivial, hR _ _ _ (Sub.refl _) ls.sb⟩
      · obtain ⟨n, t2, t3, t4, t5, t6, t7, t8, t9, t10, t11, t12, t13, t14, t15, t16, t17, rfl, ls, hnl⟩ := h
        refine ⟨trivial, _, rfl, fun R2 hR2 => ?_⟩
        simp only [gN, List.set]
        have hnl : n ≤ 400 ∧ n + 200 + 200 * r.length ≤ 600 := by simp only [List.length_cons] at hnl; omega
        refine sq (M := fun S' G' => ∃ bk bl wy n', S' = [some (.ref a), some (.ref dr), some t, some (.ref bk), some (.int ((wy : Nat) : Int)), t5, t6, t7, t8, t9, t10, t11, t12, t13, t14, t15, t16, t17] ∧ GoodB bl ∧ 1 ≤ wy ∧ wy ≤ 8 ∧ At dr G' bk (.lst (bl.map T.str)) ∧ LSt G G' dr n' ∧ n' ≤ n + 14) ?_ (fun R3 hR3 => ?_)
        · rintro S' G' ⟨bk, bl, wy, n1, rfl, hbl, hw1, hw8, hbk, ls, hn1⟩
          refine sq (M := fun S' G' => ∃ (hom : Addr) (lay : Lay) (t6 : Option T) (n' : Nat), S' = [some (.ref a), some (.ref dr), some t, some (.ref bk), some (.int (wy : Int)), some (.ref hom), t6, t7, t8, t9, t10, t11, t12, t13, t14, t15, t16, t17] ∧ GoodLay lay ∧ lay.map (·.1) = bl ∧ At dr G' bk (.lst (bl.map T.str)) ∧ At dr G' hom (.dic (layT lay)) ∧ LSt G G' dr n' ∧ n' ≤ n + 30) ?_ (fun R3 hR3 => ?_)
          · rintro S' G' ⟨hom, lay, t6, n2, rfl, hg, hlm, hbk, hho, ls, hn2⟩
            have hlk : ∀ b ∈ bl, (lay.lookup b).isSome = true := fun b hb => by
              rw [← hlm] at hb
              obtain ⟨q0, hq0, rfl⟩ := List.mem_map.mp hb
              rw [lay_mem hg.nd hq0]; rfl
            refine sq (M := fun S' G' => ∃ (sn : Addr) (bs : List Str) (t8 : Option T) (n' : Nat), S' = [some (.ref a), some (.ref dr), some t, some (.ref bk), some (.int (wy : Int)), some (.ref hom), t6, some (.ref sn), t8, t9, t10, t11, t12, t13, t14, t15, t16, t17] ∧ At dr G' bk (.lst (bl.map T.str)) ∧ At dr G' hom (.dic (layT lay)) ∧ At dr G' sn (.lst (bs.map T.str)) ∧ bs.length ≤ 30 ∧ (∀ b ∈ bs, b ∈ bl) ∧ LSt G G' dr n' ∧ n' ≤ n + 61) ?_ (fun R3 hR3 => ?_)
            · rintro S' G' ⟨sn, bs, t8, n3, rfl, hbk, hho, hsn, hbs, hbm, ls, hn3⟩
              have hbs2 : ∀ b ∈ bs, (lay.lookup b).isSome = true ∧ PyData.strOk b = true := fun b hb => ⟨hlk b (hbm b hb), (hbl.ok b (hbm b hb)).2⟩
              refine sq (M := fun S' G' => ∃ (fr fn : Addr), S' = [some (.ref a), some (.ref dr), some t, some (.ref bk), some (.int (wy : Int)), some (.ref hom), t6, some (.ref sn), t8, some (.ref fr), some (.ref fn), t11, t12, t13, t14, t15, t16, t17] ∧ At dr G' bk (.lst (bl.map T.str)) ∧ At dr G' hom (.dic (layT lay)) ∧ At dr G' sn (.lst (bs.map T.str)) ∧ At dr G' fr (.lst (distsL lay (fun _ => []) bs)) ∧ At dr G' fn (.lst ((bestL lay wy bs).map T.str)) ∧ LSt G G' dr n3) ?_ (fun R3 hR3 => ?_)
              · rintro S' G' ⟨fr, fn, rfl, hbk, hho, hsn, hfr, hfn, ls⟩
                refine sq1 (S1 := [some (.ref a), some (.ref dr), some t, some (.ref bk), some (.int (wy : Int)), some (.ref hom), t6, some (.ref sn), t8, some (.ref fr), some (.ref fn), t11, t12, t13, t14, t15, t16, t17]) (G1 := G') (fun R4 hR4 => ?_) ?_
                · simp only [lCallN, lIfS, lAnd, lOr, lNot, lB, lOp, lVar, lC, lCons, lNil, lTup, lLst, lUn, lCB, lAsg, gN, lSet, lRet, lRetN, lDrop, lNext, lIf, lBM, lFor, lLc, lDc, lIt, lRg1, lRg2, lEnum, lZip, lMeth, lCall, lProp, lFld, lFldS, lGlob, lIsi2, lChain, lSl, lSome, lNo, lAndV, lOrV, lNotV, lPar, lPar3, lMake, lDisp, lPCons, lPNil, lYes, lPTup, lUnP, lPIx, unP, gT, gCons2, gNil2, slotsOf_nil, slotsOf_cons, wipe2, sl, List.set, List.append_nil]
                  refine ⟨rfl, rfl, .ref sn, hom, wy, .ref fn, lay, bs, bestL lay wy bs, rfl, .inl ⟨sn, rfl, hsn.at_⟩, .inl ⟨fn, rfl, hfn.at_⟩, hho.at_, hg, ⟨hw1, hw8⟩, fun b hb => (hbs2 b hb).1, fun b hb => (hbs2 b (best_mem hb)).1, by omega, fun p G5 sb5 hp gp => ?_⟩
                  rw [best_law (fun b hb => (hbs2 b hb).1) hw1] at gp
                  refine itT_lst (sb5 _ _ hfr.at_) ?_
                  have hfl : (distsL lay (fun _ => []) bs).length = bs.length := dists_len
                  refine lc_pure (fun _ => true) (fun t => .bl (nearT wy t)) (sb5 _ _ hfr.at_) (by rw [hfl]; exact hz _ (by omega)) (fun t ht => ?_) ?_
                  · obtain ⟨sw, d, rfl⟩ := dists_form (fun b hb => (hbs2 b hb).1) t ht
                    refine ⟨_, rfl, fun Φ h => h _ (Sub.refl _), fun _ G6 sb Φ h => ?_⟩
                    simp only [lIfS, lAnd, lOr, lNot, lB, lOp, lVar, lC, lCons, lNil, lTup, lLst, lUn, lCB, lAsg, gN, lSet, lRet, lRetN, lDrop, lNext, lIf, lBM, lFor, lLc, lDc, lIt, lRg1, lRg2, lEnum, lZip, lMeth, lCall, lProp, lFld, lFldS, lGlob, lIsi2, lChain, lSl, lSome, lNo, lAndV, lOrV, lNotV, lPar, lPar3, lMake, lDisp, lPCons, lPNil, lYes, lPTup, lUnP, lPIx, unP, gT, gCons2, gNil2, slotsOf_nil, slotsOf_cons, wipe2, sl, List.set, List.append_nil, ordT]
                    exact h _ (Sub.refl _)
                  · intro p2 hp2
                    rw [List.filter_eq_self.mpr (fun _ _ => rfl)]
                    have e1 : (distsL lay (fun _ => []) bs).map (fun t => T.bl (nearT wy t)) = ((distsL lay (fun _ => []) bs).map (nearT wy)).map T.bl := by rw [List.map_map]; rfl
                    rw [e1]
                    refine neT_bools (Sub.gup hp2 _ _ gp) gup_same ?_
                    simp only [decide_true, Bool.not_true, Bool.false_eq_true, if_false]
                    exact hR4 _ (sb5.trans (Sub.gup hp2))
                · simp only [lFor, lRg1, lCons, lNil, lC]
                  refine ⟨by decide, ?_⟩
                  refine forW_ind (I := fun r S2 G2 => ∃ (n' : Nat) (t6 t8 t13 t14 t15 t16 t17 : Option T), S2 = [some (.ref a), some (.ref dr), some t, some (.ref bk), some (.int (wy : Int)), some (.ref hom), t6, some (.ref sn), t8, some (.ref fr), some (.ref fn), t11, t12, t13, t14, t15, t16, t17] ∧ At dr G2 bk (.lst (bl.map T.str)) ∧ At dr G2 hom (.dic (layT lay)) ∧ At dr G2 sn (.lst (bs.map T.str)) ∧ At dr G2 fr (.lst (distsL lay (fun _ => []) bs)) ∧ LSt G G2 dr n' ∧ n' + 12 * r.length ≤ n + 61 + 48)
                    (fun S2 G2 h => ?_) (fun u r4 S2 G2 h => ?_) _ _ _ ⟨n3, t6, t8, t13, t14, t15, t16, t17, rfl, hbk, hho, hsn, hfr, ls, by simp; omega⟩
                  · obtain ⟨n4, t6, t8, t13, t14, t15, t16, t17, rfl, _, _, _, _, ls, hn4⟩ := h
                    exact ⟨trivial, hR2 _ _ _ (Sub.refl _) ⟨n4, _, _, _, _, _, _, _, _, _, _, _, _, _, _, _, _, rfl, ls, by simp at hn4; omega⟩⟩
                  · obtain ⟨n4, t6, t8, t13, t14, t15, t16, t17, rfl, hbk, hho, hsn, hfr, ls, hn4⟩ := h
                    rw [List.length_cons] at hn4
                    refine ⟨trivial, _, rfl, fun R5 hR5 => ?_⟩
                    simp only [gN, List.set]
                    refine sq (M := fun S' G' => ∃ (ah : Addr) (as : List Str) (n' : Nat), S' = [some (.ref a), some (.ref dr), some t, some (.ref bk), some (.int (wy : Int)), some (.ref hom), t6, some (.ref sn), t8, some (.ref fr), some (.ref fn), t11, t12, some u, some (.ref ah), t15, t16, t17] ∧ At dr G' bk (.lst (bl.map T.str)) ∧ At dr G' hom (.dic (layT lay)) ∧ At dr G' sn (.lst (bs.map T.str)) ∧ At dr G' fr (.lst (distsL lay (fun _ => []) bs)) ∧ At dr G' ah (.lst (as.map T.str)) ∧ as.length ≤ 10 ∧ (∀ b ∈ as, b ∈ bl) ∧ LSt G G' dr n' ∧ n' ≤ n4 + 11) ?_ (fun R6 hR6 => ?_)
                    · rintro S' G' ⟨ah, as, n5, rfl, hbk, hho, hsn, hfr, hah, has, ham, ls, hn5⟩
                      have has2 : ∀ b ∈ as, (lay.lookup b).isSome = true ∧ PyData.strOk b = true := fun b hb => ⟨hlk b (ham b hb), (hbl.ok b (ham b hb)).2⟩
                      refine sq (M := fun S' G2 => ∃ x pd rd ls', S' = [some (.ref a), some (.ref dr), some t, some (.ref bk), some (.int (wy : Int)), some (.ref hom), t6, some (.ref sn), t8, some (.ref fr), some (.ref fn), t11, t12, some u, some (.ref ah), some (.ref x), t16, t17] ∧ Sub G' G2 ∧ G' x = none ∧ G' pd = none ∧ G' rd = none ∧ (∀ s, ls'.lookup s = lay.lookup s) ∧ Cst CP G2 x pd rd ls' wy (runR lay wy (fun _ => []) as)) ?_ (fun R6 hR6 => ?_)
                      · rintro S' G2 ⟨x, pd, rd, ls', rfl, sb, hx0, hp0, hr0, hlk', hc⟩
                        refine sq (M := fun S' G3 => ∃ t6 t16 t17, S' = [some (.ref a), some (.ref dr), some t, some (.ref bk), some (.int (wy : Int)), some (.ref hom), t6, some (.ref sn), t8, some (.ref fr), some (.ref fn), t11, t12, some u, some (.ref ah), some (.ref x), t16, t17] ∧ Sub G' G3) ?_ (fun R6 hR6 => ?_)
                        · rintro S' G3 ⟨t6, t16, t17, rfl, sb3⟩
                          simp only [lCallN, lIfS, lAnd, lOr, lNot, lB, lOp, lVar, lC, lCons, lNil, lTup, lLst, lUn, lCB, lAsg, gN, lSet, lRet, lRetN, lDrop, lNext, lIf, lBM, lFor, lLc, lDc, lIt, lRg1, lRg2, lEnum, lZip, lMeth, lCall, lProp, lFld, lFldS, lGlob, lIsi2, lChain, lSl, lSome, lNo, lAndV, lOrV, lNotV, lPar, lPar3, lMake, lDisp, lPCons, lPNil, lYes, lPTup, lUnP, lPIx, unP, gT, gCons2, gNil2, slotsOf_nil, slotsOf_cons, wipe2, sl, List.set, List.append_nil]
                          refine ⟨rfl, rfl, .ref sn, hom, wy, .ref ah, lay, bs, as, rfl, .inl ⟨sn, rfl, sb3 _ _ hsn.at_⟩, .inl ⟨ah, rfl, sb3 _ _ hah.at_⟩, sb3 _ _ hho.at_, hg, ⟨hw1, hw8⟩, fun b hb => (hbs2 b hb).1, fun b hb => (has2 b hb).1, by omega, fun p G5 sb5 hp gp => ?_⟩
                          have sb35 := sb3.trans sb5
                          refine ⟨hom, sn, wy, ah, lay, bs, as, rfl, sb35 _ _ hho.at_, hg, sb35 _ _ hsn.at_, sb35 _ _ hah.at_, hw8, fun b hb => ?_, by omega, fun p2 G6 sb6 hp2 gp2 => ?_⟩
                          · rcases List.mem_append.mp hb with hb | hb
                            · exact has2 b hb
                            · exact hbs2 b hb
                          · refine neT_bools (sb6 _ _ gp) gp2 ?_
                            simp only [decide_true, Bool.not_true, Bool.false_eq_true, if_false]
                            have sb36 := sb35.trans sb6
                            exact hR5 _ _ _ (Sub.refl _) ⟨n5, _, _, _, _, _, _, _, rfl, hbk.up sb36, hho.up sb36, hsn.up sb36, hfr.up sb36, ls.up sb36, by omega⟩
                        · have hst : runR lay wy (fun _ => []) as = takeR wy (relR (fullRun lay (fun _ => []) as) (fun _ => [])) := by
                            have h3 := run_take (ls := lay) (w := wy) (bs := as) (U := fun _ => []) hw1 (fun _ => List.nodup_nil)
                            have e : takeR wy (fun _ => []) = fun _ => [] := by funext i; simp [takeR]
                            rw [e] at h3
                            rw [h3, rel_nil]
                          have hU0 : NdR (fullRun lay (fun _ => []) as) := NdR.run fun _ => List.nodup_nil
                          generalize fullRun lay (fun _ => []) as = U0 at hst hU0
                          rw [hst] at hc
                          simp only [lFor, lZip, lCons, lNil, lVar, sl, List.getElem?_cons_succ, List.getElem?_cons_zero, sb _ _ hsn.at_, sb _ _ hfr.at_]
                          refine forW_ind (I := fun r S3 G3 => ∃ (t6 t16 t17 : Option T) (D : Rows) (bs' : List Str), S3 = [some (.ref a), some (.ref dr), some t, some (.ref bk), some (.int (wy : Int)), some (.ref hom), t6, some (.ref sn), t8, some (.ref fr), some (.ref fn), t11, t12, some u, some (.ref ah), some (.ref x), t16, t17] ∧ Sub G' G3 ∧ Cst CP G3 x pd rd ls' wy (takeR wy (relR U0 D)) ∧ NdR D ∧ r = zipT (bs'.map T.str) (distsL lay D bs') ∧ ∀ b ∈ bs', (lay.lookup b).isSome = true)
                            (fun S3 G3 h => ?_) (fun tt r3 S3 G3 h => ?_) _ _ _ ⟨t6, t16, t17, fun _ => [], bs, rfl, sb, hc, fun _ => List.nodup_nil, rfl, fun b hb => (hbs2 b hb).1⟩
                          · obtain ⟨t6, t16, t17, D, bs', rfl, sb3, _⟩ := h
                            exact ⟨⟨sb3 _ _ hsn.at_, sb3 _ _ hfr.at_⟩, hR6 _ _ _ (Sub.refl _) ⟨t6, t16, t17, rfl, sb3⟩⟩
                          · obtain ⟨t6, t16, t17, D, bs', rfl, sb3, hc3, hD, er, hl3⟩ := h
                            refine ⟨⟨sb3 _ _ hsn.at_, sb3 _ _ hfr.at_⟩, ?_⟩
                            cases bs' with
                            | nil => cases er
                            | cons b bs' =>
                              obtain ⟨i, hi⟩ := Option.isSome_iff_exists.mp (hl3 b List.mem_cons_self)
                              rw [distsL, hi] at er
                              have er2 : tt :: r3 = .tup [.str b, distOf b (D i)] :: zipT (bs'.map T.str) (distsL lay (fullR lay D b) bs') := er
                              obtain ⟨rfl, rfl⟩ := List.cons.inj er2
                              refine ⟨_, rfl, fun R7 hR7 => ?_⟩
                              have hxr : x ≠ rd := fun z => by have := hc3.hx; rw [z, hc3.hr] at this; cases this
                              have hpr : pd ≠ rd := fun z => by
                                have h1 := hc3.hp
                                rw [z, hc3.hr] at h1
                                injection h1 with h1
                                injection h1 with h1
                                exact lay_rows h1.symm
                              refine sq1 (S1 := [some (.ref a), some (.ref dr), some t, some (.ref bk), some (.int (wy : Int)), some (.ref hom), some (.str b), some (.ref sn), t8, some (.ref fr), some (.ref fn), t11, t12, some u, some (.ref ah), some (.ref x), some (distOf b (D i)), some (.bl (decide (b ∈ (relL (U0 i) (D i)).take wy)))]) (G1 := gup G3 rd (.dic (rowsT (takeR wy (relR U0 (fullR lay D b)))))) (fun R8 hR8 => ?_) ?_
                              · simp only [lIfS, lAnd, lOr, lNot, lB, lOp, lVar, lC, lCons, lNil, lTup, lLst, lUn, lCB, lAsg, gN, lSet, lRet, lRetN, lDrop, lNext, lIf, lBM, lFor, lLc, lDc, lIt, lRg1, lRg2, lEnum, lZip, lMeth, lCall, lProp, lFld, lFldS, lGlob, lIsi2, lChain, lSl, lSome, lNo, lAndV, lOrV, lNotV, lPar, lPar3, lMake, lDisp, lPCons, lPNil, lYes, lPTup, lUnP, lPIx, unP, gT, gCons2, gNil2, slotsOf_nil, slotsOf_cons, wipe2, sl, List.set, List.append_nil]
                                simp only [hc3.hx]
                                refine ⟨trivial, rfl, x, b, pd, rd, ls', wy, _, i, rfl, hc3, by rw [hlk']; exact hi, ?_⟩
                                have e1 : setR (takeR wy (relR U0 D)) i (touchL b wy (takeR wy (relR U0 D) i)) = takeR wy (relR U0 (fullR lay D b)) := by
                                  rw [← rel_full, ← step_take hw1 (rel_nd hU0 hD)]
                                  simp only [stepR, hi]
                                rw [e1]
                                exact hR8 _ (Sub.refl _)
                              · have go : R7 [some (.ref a), some (.ref dr), some t, some (.ref bk), some (.int (wy : Int)), some (.ref hom), some (.str b), some (.ref sn), t8, some (.ref fr), some (.ref fn), t11, t12, some u, some (.ref ah), some (.ref x), some (distOf b (D i)), some (.bl (decide (b ∈ (relL (U0 i) (D i)).take wy)))] (gup G3 rd (.dic (rowsT (takeR wy (relR U0 (fullR lay D b)))))) := by
                                  refine hR7 _ _ _ (Sub.refl _) ⟨_, _, _, fullR lay D b, bs', rfl, sb3.set hr0, ⟨by rw [gup_ne hxr]; exact hc3.hx, by rw [gup_ne hpr]; exact hc3.hp, gup_same, fun j => ?_, hc3.sets⟩, hD.full, rfl, fun c hc => hl3 c (List.mem_cons_of_mem _ hc)⟩
                                  simp only [takeR, List.length_take]
                                  omega
                                have hpk : PairOk wy (decide (b ∈ (relL (U0 i) (D i)).take wy)) (distOf b (D i)) := pair_ok
                                generalize decide (b ∈ (relL (U0 i) (D i)).take wy) = hit at hpk go
                                generalize distOf b (D i) = dt at hpk go
                                obtain ⟨d, ⟨rfl, hh⟩ | ⟨rfl, hh⟩⟩ := hpk
                                · subst hh
                                  simp only [lIfS, lAnd, lOr, lNot, lB, lOp, lVar, lC, lCons, lNil, lTup, lLst, lUn, lCB, lAsg, gN, lSet, lRet, lRetN, lDrop, lNext, lIf, lBM, lFor, lLc, lDc, lIt, lRg1, lRg2, lEnum, lZip, lMeth, lCall, lProp, lFld, lFldS, lGlob, lIsi2, lChain, lSl, lSome, lNo, lAndV, lOrV, lNotV, lPar, lPar3, lMake, lDisp, lPCons, lPNil, lYes, lPTup, lUnP, lPIx, unP, gT, gCons2, gNil2, slotsOf_nil, slotsOf_cons, wipe2, sl, List.set, List.append_nil]
                                  refine ixT1 ?_
                                  simp only [ordT]
                                  by_cases hdw : d < wy
                                  · have h1 : ¬ ((wy : Int) ≤ (d : Int)) := by omega
                                    have h2 : ((d : Int) < (wy : Int)) := by omega
                                    simp only [hdw, h1, h2, decide_true, decide_false, Bool.false_eq_true, if_true, if_false] at go ⊢
                                    refine ixT0 (eqT_scal rfl ?_)
                                    simp only [decide_true, if_true]
                                    refine ixT1 ?_
                                    simp only [ordT, h2, decide_true]
                                    refine neT_scal rfl ?_
                                    simp only [decide_true, Bool.not_true, Bool.false_eq_true, if_false]
                                    exact go
                                  · have h1 : ((wy : Int) ≤ (d : Int)) := by omega
                                    have h2 : ¬ ((d : Int) < (wy : Int)) := by omega
                                    simp only [hdw, h1, h2, decide_true, decide_false, Bool.false_eq_true, if_true, if_false] at go ⊢
                                    refine ixT0 (eqT_scal rfl ?_)
                                    simp only [decide_true, if_true]
                                    refine ixT1 ?_
                                    simp only [ordT, h2, decide_false]
                                    refine neT_scal rfl ?_
                                    simp only [decide_true, Bool.not_true, Bool.false_eq_true, if_false]
                                    exact go
                                · simp only [lIfS, lAnd, lOr, lNot, lB, lOp, lVar, lC, lCons, lNil, lTup, lLst, lUn, lCB, lAsg, gN, lSet, lRet, lRetN, lDrop, lNext, lIf, lBM, lFor, lLc, lDc, lIt, lRg1, lRg2, lEnum, lZip, lMeth, lCall, lProp, lFld, lFldS, lGlob, lIsi2, lChain, lSl, lSome, lNo, lAndV, lOrV, lNotV, lPar, lPar3, lMake, lDisp, lPCons, lPNil, lYes, lPTup, lUnP, lPIx, unP, gT, gCons2, gNil2, slotsOf_nil, slotsOf_cons, wipe2, sl, List.set, List.append_nil]
                                  refine ixT1 ?_
                                  simp only [ordT]
                                  by_cases hdw : wy ≤ d
                                  · have h1 : ((wy : Int) ≤ (d : Int)) := by omega
                                    have hh := hh hdw
                                    subst hh
                                    simp only [h1, decide_true, Bool.false_eq_true, if_true, if_false]
                                    refine ixT0 (eqT_scal rfl ?_)
                                    exact go
                                  · have h1 : ¬ ((wy : Int) ≤ (d : Int)) := by omega
                                    simp only [h1, decide_false, Bool.false_eq_true, if_false]
                                    refine ixT0 (eqT_scal rfl ?_)
                                    exact go
                      · simp only [lMakeK, lCons, lNil, lIfS, lAnd, lOr, lNot, lB, lOp, lVar, lC, lCons, lNil, lTup, lLst, lUn, lCB, lAsg, gN, lSet, lRet, lRetN, lDrop, lNext, lIf, lBM, lFor, lLc, lDc, lIt, lRg1, lRg2, lEnum, lZip, lMeth, lCall, lProp, lFld, lFldS, lGlob, lIsi2, lChain, lSl, lSome, lNo, lAndV, lOrV, lNotV, lPar, lPar3, lMake, lDisp, lPCons, lPNil, lYes, lPTup, lUnP, lPIx, unP, gT, gCons2, gNil2, slotsOf_nil, slotsOf_cons, wipe2, sl, List.set, List.append_nil]
                        refine ⟨rfl, rfl, fun x hx => ⟨x, hom, wy, .ref ah, lay, as, rfl, gup_same, Sub.gup hx _ _ hho.at_, hg, ⟨hw1, hw8⟩, .inl ⟨ah, rfl, Sub.gup hx _ _ hah.at_⟩, fun b hb => (has2 b hb).1, fun G2 pd rd ls' sx hp0 hr0 hsl hc => ⟨rfl, ?_⟩⟩⟩
                        have hpx : pd ≠ x := fresh_ne gup_same hp0
                        have hrx : rd ≠ x := fresh_ne gup_same hr0
                        rw [gup_ne hpx] at hp0
                        rw [gup_ne hrx] at hr0
                        refine hR6 _ _ _ (Sub.refl _) ⟨x, pd, rd, ls', rfl, fun b o e => ?_, hx, hp0, hr0, hsl.look hg.nd, hc⟩
                        have hbx : b ≠ x := fun z => by rw [z, hx] at e; cases e
                        exact sx b o hbx (by rw [gup_ne hbx]; exact e)
                    · simp only [lAsg]
                      refine picks_le (k := 11) rfl (by decide) (by decide) (by rw [hmd]; omega) ls hbk hbl.len fun p G5 as n5 ls5 hn5 sx hp hsn' hbs hbm => ?_
                      exact hR6 _ _ _ (Sub.refl _) ⟨p, as, n5, rfl, hbk.x sx, hho.x sx, hsn.x sx, hfr.x sx, hsn', by omega, hbm, ls5, by omega⟩
              · simp only [lIfS, lAnd, lOr, lNot, lB, lOp, lVar, lC, lCons, lNil, lTup, lLst, lUn, lCB, lAsg, gN, lSet, lRet, lRetN, lDrop, lNext, lIf, lBM, lFor, lLc, lDc, lIt, lRg1, lRg2, lEnum, lZip, lMeth, lCall, lProp, lFld, lFldS, lGlob, lIsi2, lChain, lSl, lSome, lNo, lAndV, lOrV, lNotV, lPar, lPar3, lMake, lDisp, lPCons, lPNil, lYes, lPTup, lUnP, lPIx, unP, gT, gCons2, gNil2, slotsOf_nil, slotsOf_cons, wipe2, sl, List.set, List.append_nil]
                refine ⟨.ref sn, hom, lay, bs, rfl, .inl ⟨sn, rfl, hsn.at_⟩, hho.at_, hg, fun b hb => (hbs2 b hb).1, by omega, fun fr G5 sb5 hfr gfr => ?_⟩
                refine ⟨hom, sn, wy, lay, bs, rfl, sb5 _ _ hho.at_, hg, sb5 _ _ hsn.at_, hbs2, by omega, fun fn G6 sb6 hfn gfn => ?_⟩
                have ls5 := ls.up sb5
                exact hR3 _ _ _ (Sub.refl _) ⟨fr, fn, rfl, (hbk.up sb5).up sb6, (hho.up sb5).up sb6, (hsn.up sb5).up sb6, ⟨fresh_ne ls.hd hfr, sb6 _ _ gfr⟩, ⟨fresh_ne ls5.hd hfn, gfn⟩, ls5.up sb6⟩
            · simp only [lAsg]
              refine picks_le (k := 31) rfl (by decide) (by decide) (by rw [hmd]; omega) ls hbk hbl.len fun p G5 bs n5 ls5 hn5 sx hp hsn hbs hbm => ?_
              exact hR3 _ _ _ (Sub.refl _) ⟨p, bs, t8, n5, rfl, hbk.x sx, hho.x sx, hsn, by omega, hbm, ls5, by omega⟩
          · simp only [lIfS, lAnd, lOr, lNot, lB, lOp, lVar, lC, lCons, lNil, lTup, lLst, lUn, lCB, lAsg, gN, lSet, lRet, lRetN, lDrop, lNext, lIf, lBM, lFor, lLc, lDc, lIt, lRg1, lRg2, lEnum, lZip, lMeth, lCall, lProp, lFld, lFldS, lGlob, lIsi2, lChain, lSl, lSome, lNo, lAndV, lOrV, lNotV, lPar, lPar3, lMake, lDisp, lPCons, lPNil, lYes, lPTup, lUnP, lPIx, unP, gT, gCons2, gNil2, slotsOf_nil, slotsOf_cons, wipe2, sl, List.set, List.append_nil]
            refine itT_lst hbk.at_ ?_
            refine lcW_ind (I := fun r acc G3 => ∃ (lay : Lay) (rest : List Str) (n' : Nat), LSt G G3 dr n' ∧ n' + 2 * r.length ≤ n1 + 2 * bl.length ∧ At dr G3 bk (.lst (bl.map T.str)) ∧ r = rest.map T.str ∧ acc = pairsL lay ∧ lay.map (·.1) ++ rest = bl ∧ ∀ q ∈ lay, q.2 < 8) (fun acc G3 h => ?_) (fun u r acc G3 h => ?_) _ _ _ ⟨[], bl, n1, ls, by simp, hbk, rfl, rfl, rfl, by simp⟩
            · obtain ⟨lay, rest, n', ls3, hn', hbk3, er, rfl, hl, hlt⟩ := h
              have er' : rest = [] := by simpa using er.symm
              subst er'
              rw [List.append_nil] at hl
              refine ⟨hbk3.at_, fun p hp => ?_⟩
              simp only [dictT, gup_same, pairs_lay]
              intro hom hhom
              have hg : GoodLay lay := ⟨fun q hq => ?_, by rw [hl]; exact hbl.nd, ?_⟩
              · have hmrg : dmerge [] (layT lay) = layT lay := merge_lay lay [] (by rw [List.nil_append, hl]; exact hbl.nd)
                rw [hmrg]
                have ls4 := ls3.up (Sub.gup (o := .lst (pairsL lay)) hp)
                have hl8 := hbl.len.2
                simp only [List.length_nil] at hn'
                exact hR3 _ _ _ (Sub.refl _) ⟨hom, lay, t6, n', rfl, hg, hl, (hbk3.up (Sub.gup hp)).up (Sub.gup hhom), At.new ls4.hd hhom, ls4.up (Sub.gup hhom), by omega⟩
              · have hq2 : q.1 ∈ bl := by rw [← hl]; exact List.mem_map.mpr ⟨q, hq, rfl⟩
                exact ⟨(hbl.ok _ hq2).1, (hbl.ok _ hq2).2, hlt q hq⟩
              · have := congrArg List.length hl
                rw [List.length_map] at this
                have h1 := hbl.len
                omega
            · obtain ⟨lay, rest, n', ls3, hn', hbk3, er, rfl, hl, hlt⟩ := h
              refine ⟨hbk3.at_, ?_⟩
              cases rest with
              | nil => cases er
              | cons b rest =>
                obtain ⟨rfl, rfl⟩ := List.cons.inj er
                refine ⟨_, rfl, fun R4 hR4 => ?_⟩
                simp only [lIfS, lAnd, lOr, lNot, lB, lOp, lVar, lC, lCons, lNil, lTup, lLst, lUn, lCB, lAsg, gN, lSet, lRet, lRetN, lDrop, lNext, lIf, lBM, lFor, lLc, lDc, lIt, lRg1, lRg2, lEnum, lZip, lMeth, lCall, lProp, lFld, lFldS, lGlob, lIsi2, lChain, lSl, lSome, lNo, lAndV, lOrV, lNotV, lPar, lPar3, lMake, lDisp, lPCons, lPNil, lYes, lPTup, lUnP, lPIx, unP, gT, gCons2, gNil2, slotsOf_nil, slotsOf_cons, wipe2, sl, List.set, List.append_nil, if_true]
                rw [List.length_cons] at hn'
                have hl8 := hbl.len.2
                have hll := congrArg List.length hl
                rw [List.length_append, List.length_map, List.length_cons] at hll
                refine ⟨hz 2 (by decide), fun l hll2 => ?_⟩
                have ls4 := ls3.up (Sub.gup (o := .lst [.int 1, .int 2]) hll2)
                have hbk4 := hbk3.up (Sub.gup (o := .lst [.int 1, .int 2]) hll2)
                refine ⟨dr, l, n', _, rfl, ls4.hd, gup_same, by decide, by decide, by rw [hmd]; omega, fun u hu => ?_⟩
                have hu2 : ∃ k : Nat, u = .int (k : Int) ∧ 1 ≤ k ∧ k ≤ 2 := by
                  simp only [List.mem_cons, List.not_mem_nil, or_false] at hu
                  rcases hu with rfl | rfl
                  · exact ⟨1, rfl, by decide, by decide⟩
                  · exact ⟨2, rfl, by decide, by decide⟩
                obtain ⟨k, rfl, hk1, hk2⟩ := hu2
                refine ⟨dr, (k : Int), n' + 1, rfl, ls4.take.hd, by omega, by rw [hmd]; omega, fun i h0 hi => ?_⟩
                obtain ⟨j, rfl⟩ := Int.eq_ofNat_of_zero_le h0
                refine ⟨hz 2 (by decide), by rw [sizeLine_eq, pairsL, List.length_map]; omega, hR4 _ _ _ (Sub.refl _) ⟨lay ++ [(b, j)], rest, n' + 2, ls4.take.take, by omega, hbk4.draw.draw, rfl, by simp [pairsL], by rw [← hl]; simp, fun q hq => ?_⟩⟩
                rcases List.mem_append.mp hq with hq | hq
                · exact hlt q hq
                · rw [List.mem_singleton.mp hq]; show j < 8; omega
        · simp only [lIfS, lAnd, lOr, lNot, lB, lOp, lVar, lC, lCons, lNil, lTup, lLst, lUn, lCB, lAsg, gN, lSet, lRet, lRetN, lDrop, lNext, lIf, lBM, lFor, lLc, lDc, lIt, lRg1, lRg2, lEnum, lZip, lMeth, lCall, lProp, lFld, lFldS, lGlob, lIsi2, lChain, lSl, lSome, lNo, lAndV, lOrV, lNotV, lPar, lPar3, lMake, lDisp, lPCons, lPNil, lYes, lPTup, lUnP, lPIx, unP, gT, gCons2, gNil2, slotsOf_nil, slotsOf_cons, wipe2, sl, List.set, List.append_nil]
          refine ⟨dr, 8, n, rfl, ls.hd, by decide, by rw [hmd]; omega, fun i h0 hi => ?_⟩
          obtain ⟨m, rfl⟩ := Int.eq_ofNat_of_zero_le h0
          refine ⟨dr, 1 + m, n + 1, by rw [show ((1 + m : Nat) : Int) = 1 + (m : Int) by omega], by omega, ls.take.hd, by rw [hmd]; omega, fun p us G3 sx gd hp hpd hperm gp => ?_⟩
          have ls3 := ls.take.x sx gd
          refine ⟨dr, 8, n + 1 + 12, rfl, gd, by decide, by rw [hmd]; omega, fun i h0 hi => ?_⟩
          obtain ⟨wy, rfl⟩ := Int.eq_ofNat_of_zero_le h0
          refine ⟨hz 2 (by decide), hR3 _ _ _ (Sub.refl _) ⟨p, us.take (1 + m), 1 + wy, n + 14, ?_, goodB hperm (by omega) (by omega), by omega, by omega, (At.mk hpd gp).draw, ls3.take, Nat.le_refl _⟩⟩
          rw [show ((1 + wy : Nat) : Int) = 1 + (wy : Int) by omega]
  · simp only [lIfS, lAnd, lOr, lNot, lB, lOp, lVar, lC, lCons, lNil, lTup, lLst, lUn, lCB, lAsg, gN, lSet, lRet, lRetN, lDrop, lNext, lIf, lBM, lFor, lLc, lDc, lIt, lRg1, lRg2, lEnum, lZip, lMeth, lCall, lProp, lFld, lFldS, lGlob, lIsi2, lChain, lSl, lSome, lNo, lAndV, lOrV, lNotV, lPar, lPar3, lMake, lDisp, lPCons, lPNil, lYes, lPTup, lUnP, lPIx, unP, gT, gCons2, gNil2, slotsOf_nil, slotsOf_cons, wipe2, sl, List.set, List.append_nil]
    exact ⟨trivial, a, rfl, hnd, fun d hd => hR _ _ _ (Sub.refl _) ⟨d, rfl, ⟨Sub.gup hd, gup_same, hd⟩⟩⟩
end K16
namespace K16
open PySem PySem.Spec PyProof.Rows L2 Dv
theorem scr_start {K : Fr0} {a : Addr} {ns : List Int} {H : Hp} (hl : ns.length ≤ 63) (hO : Only H) (hS : SqL K H a (ns.map V.int)) : lowScr K spLawT [.ref a] H (fun v _ => v = .bl true) fun _ _ _ => False := by
  refine ⟨a, ns, fun _ => none, fun t _ => t = .bl true, fun _ _ _ => False, rfl, SqG.of hO hS, hl, ⟨fun a o e => (by cases e), fun d n b e => (by cases e), fun d d' n n' e => (by cases e), fun e he => by cases he⟩, ⟨a, rfl, (fun d n z => by cases z), rfl⟩, fun t G' v H' e r _ _ => ?_, fun _ _ _ _ _ _ z => z.elim⟩
  subst e
  cases r
  rfl
theorem cx_never {P : Program} {w : World} {H : Hp} {s : Shared} {e : Value} {s' : Shared} (h : L2.CX P w [] H s (fun _ _ _ => False) e s') : False := by
  obtain ⟨_, _, _, _, _, _, _, _, _, _, _, _, z⟩ := h
  exact z
theorem all_mk {P : Program} {w : World} {K : Fr0} {h : Heap} {mg : Str → Option Value} {fa : Addr} (X : K.In h) (G : h.Ns mainGlobals mg) (hfa : mg "law" = some (.ref fa))
    {tLETTERS : Tok}
    {tMOST_KEPT : Tok}
    {tMOST_SETS : Tok}
    {tMOST_WAYS : Tok}
    {fis_integer : Addr} {ocis_integer kVis_integer dcis_integer pmis_integer cdis_integer ctis_integer : Value} {odis_integer anis_integer : Option Addr} {slis_integer : Array (Option Value)}
    {fis_name : Addr} {ocis_name kVis_name dcis_name pmis_name cdis_name ctis_name : Value} {odis_name anis_name : Option Addr} {slis_name : Array (Option Value)}
    {fis_set : Addr} {ocis_set kVis_set dcis_set pmis_set cdis_set ctis_set : Value} {odis_set anis_set : Option Addr} {slis_set : Array (Option Value)}
    {fis_layout : Addr} {ocis_layout kVis_layout dcis_layout pmis_layout cdis_layout ctis_layout : Value} {odis_layout anis_layout : Option Addr} {slis_layout : Array (Option Value)}
    {fneed_layout : Addr} {ocneed_layout kVneed_layout dcneed_layout pmneed_layout cdneed_layout ctneed_layout : Value} {odneed_layout anneed_layout : Option Addr} {slneed_layout : Array (Option Value)}
    {fneed_block : Addr} {ocneed_block kVneed_block dcneed_block pmneed_block cdneed_block ctneed_block : Value} {odneed_block anneed_block : Option Addr} {slneed_block : Array (Option Value)}
    {fneed_ways : Addr} {ocneed_ways kVneed_ways dcneed_ways pmneed_ways cdneed_ways ctneed_ways : Value} {odneed_ways anneed_ways : Option Addr} {slneed_ways : Array (Option Value)}
    {fdistances_of : Addr} {ocdistances_of kVdistances_of dcdistances_of pmdistances_of cddistances_of ctdistances_of : Value} {oddistances_of andistances_of : Option Addr} {sldistances_of : Array (Option Value)}
    {fhits_of Dhits_of Thits_of : Addr} {ochits_of dchits_of pmhits_of cdhits_of cthits_of : Value} {odhits_of anhits_of ddhits_of : Option Addr} {nnhits_of : Nat} {slhits_of sThits_of : Array (Option Value)}
    {f_law_begin : Addr} {oc_law_begin kV_law_begin dc_law_begin pm_law_begin cd_law_begin ct_law_begin : Value} {od_law_begin an_law_begin : Option Addr} {sl_law_begin : Array (Option Value)}
    {f_law_take : Addr} {oc_law_take kV_law_take dc_law_take pm_law_take cd_law_take ct_law_take : Value} {od_law_take an_law_take : Option Addr} {sl_law_take : Array (Option Value)}
    {f_law_pick : Addr} {oc_law_pick kV_law_pick dc_law_pick pm_law_pick cd_law_pick ct_law_pick : Value} {od_law_pick an_law_pick : Option Addr} {sl_law_pick : Array (Option Value)}
    {f_law_shuffled : Addr} {oc_law_shuffled kV_law_shuffled dc_law_shuffled pm_law_shuffled cd_law_shuffled ct_law_shuffled : Value} {od_law_shuffled an_law_shuffled : Option Addr} {sl_law_shuffled : Array (Option Value)}
    {f_law_hits : Addr} {oc_law_hits kV_law_hits dc_law_hits pm_law_hits cd_law_hits ct_law_hits : Value} {od_law_hits an_law_hits : Option Addr} {sl_law_hits : Array (Option Value)}
    {f_law_blocks : Addr} {oc_law_blocks kV_law_blocks dc_law_blocks pm_law_blocks cd_law_blocks ct_law_blocks : Value} {od_law_blocks an_law_blocks : Option Addr} {sl_law_blocks : Array (Option Value)}
    {f_law_best_start : Addr} {oc_law_best_start kV_law_best_start dc_law_best_start pm_law_best_start cd_law_best_start ct_law_best_start : Value} {od_law_best_start an_law_best_start : Option Addr} {sl_law_best_start : Array (Option Value)}
    {flaw : Addr} {oclaw kVlaw dclaw pmlaw cdlaw ctlaw : Value} {odlaw anlaw : Option Addr} {sllaw : Array (Option Value)}
    {CCache : Addr}
    {fCache_init DCache_init TCache_init : Addr} {ocCache_init dcCache_init pmCache_init cdCache_init ctCache_init : Value} {odCache_init anCache_init ddCache_init : Option Addr} {nnCache_init : Nat} {slCache_init sTCache_init : Array (Option Value)}
    {fCache_touch : Addr} {ocCache_touch kVCache_touch dcCache_touch pmCache_touch cdCache_touch ctCache_touch : Value} {odCache_touch anCache_touch : Option Addr} {slCache_touch : Array (Option Value)}
    (z_len : PySem.W.nsIn K mainGlobals "len" = some none)
    (z_abs : PySem.W.nsIn K mainGlobals "abs" = some none)
    (z_int : PySem.W.nsIn K mainGlobals "int" = some none)
    (z_list : PySem.W.nsIn K mainGlobals "list" = some none)
    (z_tuple : PySem.W.nsIn K mainGlobals "tuple" = some none)
    (z_sorted : PySem.W.nsIn K mainGlobals "sorted" = some none)
    (z_dict : PySem.W.nsIn K mainGlobals "dict" = some none)
    (z_isinstance : PySem.W.nsIn K mainGlobals "isinstance" = some none)
    (z_range : PySem.W.nsIn K mainGlobals "range" = some none)
    (z_enumerate : PySem.W.nsIn K mainGlobals "enumerate" = some none)
    (z_zip : PySem.W.nsIn K mainGlobals "zip" = some none)
    (z_str : PySem.W.nsIn K mainGlobals "str" = some none)
    (z_bool : PySem.W.nsIn K mainGlobals "bool" = some none)
    (gLETTERS : PySem.W.nsIn K mainGlobals "LETTERS" = some (some (.str "abcdefghijklmnopqrstuvwxyz" tLETTERS)))
    (gMOST_KEPT : PySem.W.nsIn K mainGlobals "MOST_KEPT" = some (some (.int 12 tMOST_KEPT)))
    (gMOST_SETS : PySem.W.nsIn K mainGlobals "MOST_SETS" = some (some (.int 8 tMOST_SETS)))
    (gMOST_WAYS : PySem.W.nsIn K mainGlobals "MOST_WAYS" = some (some (.int 8 tMOST_WAYS)))
    (ais_integer : PySem.W.nsIn K mainGlobals "is_integer" = some (some (.ref fis_integer)))
    (lis_integer : K.lookup fis_integer = some ⟨ocis_integer, odis_integer, .func (PySem.W.fnOf "is_integer" "is_integer" (defArgs (top 8)) (defBody (top 8)) (defScope (top 8)) .none kVis_integer dcis_integer pmis_integer anis_integer cdis_integer ctis_integer), slis_integer⟩)
    (cis_integer : PySem.W.codeIn K cdis_integer "is_integer" = true)
    (kis_integer : PySem.W.keepIn K (.ref fis_integer) = true)
    (ais_name : PySem.W.nsIn K mainGlobals "is_name" = some (some (.ref fis_name)))
    (lis_name : K.lookup fis_name = some ⟨ocis_name, odis_name, .func (PySem.W.fnOf "is_name" "is_name" (defArgs (top 9)) (defBody (top 9)) (defScope (top 9)) .none kVis_name dcis_name pmis_name anis_name cdis_name ctis_name), slis_name⟩)
    (cis_name : PySem.W.codeIn K cdis_name "is_name" = true)
    (kis_name : PySem.W.keepIn K (.ref fis_name) = true)
    (ais_set : PySem.W.nsIn K mainGlobals "is_set" = some (some (.ref fis_set)))
    (lis_set : K.lookup fis_set = some ⟨ocis_set, odis_set, .func (PySem.W.fnOf "is_set" "is_set" (defArgs (top 14)) (defBody (top 14)) (defScope (top 14)) .none kVis_set dcis_set pmis_set anis_set cdis_set ctis_set), slis_set⟩)
    (cis_set : PySem.W.codeIn K cdis_set "is_set" = true)
    (kis_set : PySem.W.keepIn K (.ref fis_set) = true)
    (ais_layout : PySem.W.nsIn K mainGlobals "is_layout" = some (some (.ref fis_layout)))
    (lis_layout : K.lookup fis_layout = some ⟨ocis_layout, odis_layout, .func (PySem.W.fnOf "is_layout" "is_layout" (defArgs (top 15)) (defBody (top 15)) (defScope (top 15)) .none kVis_layout dcis_layout pmis_layout anis_layout cdis_layout ctis_layout), slis_layout⟩)
    (cis_layout : PySem.W.codeIn K cdis_layout "is_layout" = true)
    (kis_layout : PySem.W.keepIn K (.ref fis_layout) = true)
    (aneed_layout : PySem.W.nsIn K mainGlobals "need_layout" = some (some (.ref fneed_layout)))
    (lneed_layout : K.lookup fneed_layout = some ⟨ocneed_layout, odneed_layout, .func (PySem.W.fnOf "need_layout" "need_layout" (defArgs (top 16)) (defBody (top 16)) (defScope (top 16)) .none kVneed_layout dcneed_layout pmneed_layout anneed_layout cdneed_layout ctneed_layout), slneed_layout⟩)
    (cneed_layout : PySem.W.codeIn K cdneed_layout "need_layout" = true)
    (kneed_layout : PySem.W.keepIn K (.ref fneed_layout) = true)
    (aneed_block : PySem.W.nsIn K mainGlobals "need_block" = some (some (.ref fneed_block)))
    (lneed_block : K.lookup fneed_block = some ⟨ocneed_block, odneed_block, .func (PySem.W.fnOf "need_block" "need_block" (defArgs (top 17)) (defBody (top 17)) (defScope (top 17)) .none kVneed_block dcneed_block pmneed_block anneed_block cdneed_block ctneed_block), slneed_block⟩)
    (cneed_block : PySem.W.codeIn K cdneed_block "need_block" = true)
    (kneed_block : PySem.W.keepIn K (.ref fneed_block) = true)
    (aneed_ways : PySem.W.nsIn K mainGlobals "need_ways" = some (some (.ref fneed_ways)))
    (lneed_ways : K.lookup fneed_ways = some ⟨ocneed_ways, odneed_ways, .func (PySem.W.fnOf "need_ways" "need_ways" (defArgs (top 18)) (defBody (top 18)) (defScope (top 18)) .none kVneed_ways dcneed_ways pmneed_ways anneed_ways cdneed_ways ctneed_ways), slneed_ways⟩)
    (cneed_ways : PySem.W.codeIn K cdneed_ways "need_ways" = true)
    (kneed_ways : PySem.W.keepIn K (.ref fneed_ways) = true)
    (adistances_of : PySem.W.nsIn K mainGlobals "distances_of" = some (some (.ref fdistances_of)))
    (ldistances_of : K.lookup fdistances_of = some ⟨ocdistances_of, oddistances_of, .func (PySem.W.fnOf "distances_of" "distances_of" (defArgs (top 20)) (defBody (top 20)) (defScope (top 20)) .none kVdistances_of dcdistances_of pmdistances_of andistances_of cddistances_of ctdistances_of), sldistances_of⟩)
    (cdistances_of : PySem.W.codeIn K cddistances_of "distances_of" = true)
    (kdistances_of : PySem.W.keepIn K (.ref fdistances_of) = true)
    (ahits_of : PySem.W.nsIn K mainGlobals "hits_of" = some (some (.ref fhits_of)))
    (lhits_of : K.lookup fhits_of = some ⟨ochits_of, odhits_of, .func (PySem.W.fnOf "hits_of" "hits_of" (defArgs (top 21)) (defBody (top 21)) (defScope (top 21)) .none (.ref Dhits_of) dchits_of pmhits_of anhits_of cdhits_of cthits_of), slhits_of⟩)
    (chits_of : PySem.W.codeIn K cdhits_of "hits_of" = true)
    (khits_of : PySem.W.keepIn K (.ref fhits_of) = true)
    (qhits_of : PySem.W.nsIn K Dhits_of "start" = some (some (.ref Thits_of)))
    (thits_of : K.lookup Thits_of = some ⟨.type "tuple", ddhits_of, .seq #[] nnhits_of, sThits_of⟩)
    (a_law_begin : PySem.W.nsIn K mainGlobals "_law_begin" = some (some (.ref f_law_begin)))
    (l_law_begin : K.lookup f_law_begin = some ⟨oc_law_begin, od_law_begin, .func (PySem.W.fnOf "_law_begin" "_law_begin" (defArgs (top 23)) (defBody (top 23)) (defScope (top 23)) .none kV_law_begin dc_law_begin pm_law_begin an_law_begin cd_law_begin ct_law_begin), sl_law_begin⟩)
    (c_law_begin : PySem.W.codeIn K cd_law_begin "_law_begin" = true)
    (k_law_begin : PySem.W.keepIn K (.ref f_law_begin) = true)
    (a_law_take : PySem.W.nsIn K mainGlobals "_law_take" = some (some (.ref f_law_take)))
    (l_law_take : K.lookup f_law_take = some ⟨oc_law_take, od_law_take, .func (PySem.W.fnOf "_law_take" "_law_take" (defArgs (top 24)) (defBody (top 24)) (defScope (top 24)) .none kV_law_take dc_law_take pm_law_take an_law_take cd_law_take ct_law_take), sl_law_take⟩)
    (c_law_take : PySem.W.codeIn K cd_law_take "_law_take" = true)
    (k_law_take : PySem.W.keepIn K (.ref f_law_take) = true)
    (a_law_pick : PySem.W.nsIn K mainGlobals "_law_pick" = some (some (.ref f_law_pick)))
    (l_law_pick : K.lookup f_law_pick = some ⟨oc_law_pick, od_law_pick, .func (PySem.W.fnOf "_law_pick" "_law_pick" (defArgs (top 25)) (defBody (top 25)) (defScope (top 25)) .none kV_law_pick dc_law_pick pm_law_pick an_law_pick cd_law_pick ct_law_pick), sl_law_pick⟩)
    (c_law_pick : PySem.W.codeIn K cd_law_pick "_law_pick" = true)
    (k_law_pick : PySem.W.keepIn K (.ref f_law_pick) = true)
    (a_law_shuffled : PySem.W.nsIn K mainGlobals "_law_shuffled" = some (some (.ref f_law_shuffled)))
    (l_law_shuffled : K.lookup f_law_shuffled = some ⟨oc_law_shuffled, od_law_shuffled, .func (PySem.W.fnOf "_law_shuffled" "_law_shuffled" (defArgs (top 26)) (defBody (top 26)) (defScope (top 26)) .none kV_law_shuffled dc_law_shuffled pm_law_shuffled an_law_shuffled cd_law_shuffled ct_law_shuffled), sl_law_shuffled⟩)
    (c_law_shuffled : PySem.W.codeIn K cd_law_shuffled "_law_shuffled" = true)
    (k_law_shuffled : PySem.W.keepIn K (.ref f_law_shuffled) = true)
    (a_law_hits : PySem.W.nsIn K mainGlobals "_law_hits" = some (some (.ref f_law_hits)))
    (l_law_hits : K.lookup f_law_hits = some ⟨oc_law_hits, od_law_hits, .func (PySem.W.fnOf "_law_hits" "_law_hits" (defArgs (top 27)) (defBody (top 27)) (defScope (top 27)) .none kV_law_hits dc_law_hits pm_law_hits an_law_hits cd_law_hits ct_law_hits), sl_law_hits⟩)
    (c_law_hits : PySem.W.codeIn K cd_law_hits "_law_hits" = true)
    (k_law_hits : PySem.W.keepIn K (.ref f_law_hits) = true)
    (a_law_blocks : PySem.W.nsIn K mainGlobals "_law_blocks" = some (some (.ref f_law_blocks)))
    (l_law_blocks : K.lookup f_law_blocks = some ⟨oc_law_blocks, od_law_blocks, .func (PySem.W.fnOf "_law_blocks" "_law_blocks" (defArgs (top 28)) (defBody (top 28)) (defScope (top 28)) .none kV_law_blocks dc_law_blocks pm_law_blocks an_law_blocks cd_law_blocks ct_law_blocks), sl_law_blocks⟩)
    (c_law_blocks : PySem.W.codeIn K cd_law_blocks "_law_blocks" = true)
    (k_law_blocks : PySem.W.keepIn K (.ref f_law_blocks) = true)
    (a_law_best_start : PySem.W.nsIn K mainGlobals "_law_best_start" = some (some (.ref f_law_best_start)))
    (l_law_best_start : K.lookup f_law_best_start = some ⟨oc_law_best_start, od_law_best_start, .func (PySem.W.fnOf "_law_best_start" "_law_best_start" (defArgs (top 29)) (defBody (top 29)) (defScope (top 29)) .none kV_law_best_start dc_law_best_start pm_law_best_start an_law_best_start cd_law_best_start ct_law_best_start), sl_law_best_start⟩)
    (c_law_best_start : PySem.W.codeIn K cd_law_best_start "_law_best_start" = true)
    (k_law_best_start : PySem.W.keepIn K (.ref f_law_best_start) = true)
    (alaw : PySem.W.nsIn K mainGlobals "law" = some (some (.ref flaw)))
    (llaw : K.lookup flaw = some ⟨oclaw, odlaw, .func (PySem.W.fnOf "law" "law" (defArgs (top 30)) (defBody (top 30)) (defScope (top 30)) .none kVlaw dclaw pmlaw anlaw cdlaw ctlaw), sllaw⟩)
    (claw : PySem.W.codeIn K cdlaw "law" = true)
    (klaw : PySem.W.keepIn K (.ref flaw) = true)
    (aCCache : PySem.W.nsIn K mainGlobals "Cache" = some (some (.ref CCache)))
    (pgCache : PySem.W.plainGet K CCache Str.empty = true)
    (hdCache : PySem.W.hasDictIn K CCache = true)
    (poCache : PySem.W.plainOver K CCache = true)
    (saCache : PySem.W.findIn K (.ref CCache) "__setattr__" = some (some (.builtin "object.__setattr__")))
    (mkCache : PySem.W.makesIn K CCache = true)
    (kcCache : PySem.W.keepIn K (.ref CCache) = true)
    (nCache_place_of : PySem.W.findIn K (.ref CCache) "place_of" = some none)
    (nCache_room : PySem.W.findIn K (.ref CCache) "room" = some none)
    (nCache_rows : PySem.W.findIn K (.ref CCache) "rows" = some none)
    (aCache_init : PySem.W.findIn K (.ref CCache) "__init__" = some (some (.ref fCache_init)))
    (iCache_init : PySem.W.isFn K (.ref fCache_init) = true)
    (lCache_init : K.lookup fCache_init = some ⟨ocCache_init, odCache_init, .func (PySem.W.fnOf "__init__" "Cache.__init__" (defArgs (inClass (top 19) 0)) (defBody (inClass (top 19) 0)) (defScope (inClass (top 19) 0)) .none (.ref DCache_init) dcCache_init pmCache_init anCache_init cdCache_init ctCache_init), slCache_init⟩)
    (cCache_init : PySem.W.codeIn K cdCache_init "Cache.__init__" = true)
    (kCache_init : PySem.W.keepIn K (.ref fCache_init) = true)
    (qCache_init : PySem.W.nsIn K DCache_init "start" = some (some (.ref TCache_init)))
    (tCache_init : K.lookup TCache_init = some ⟨.type "tuple", ddCache_init, .seq #[] nnCache_init, sTCache_init⟩)
    (aCache_touch : PySem.W.findIn K (.ref CCache) "touch" = some (some (.ref fCache_touch)))
    (iCache_touch : PySem.W.isFn K (.ref fCache_touch) = true)
    (lCache_touch : K.lookup fCache_touch = some ⟨ocCache_touch, odCache_touch, .func (PySem.W.fnOf "touch" "Cache.touch" (defArgs (inClass (top 19) 4)) (defBody (inClass (top 19) 4)) (defScope (inClass (top 19) 4)) .none kVCache_touch dcCache_touch pmCache_touch anCache_touch cdCache_touch ctCache_touch), slCache_touch⟩)
    (cCache_touch : PySem.W.codeIn K cdCache_touch "Cache.touch" = true)
    (kCache_touch : PySem.W.keepIn K (.ref fCache_touch) = true) :
    ∃ fd : FuncData, (∀ (s : Shared) (u : Value), BindsTo s fd ⟨[u], []⟩ [("_law_script", u)]) ∧ ∀ base : Heap, K.In base → base.Ns mainGlobals mg → FnOk P w K mg base (L2.CX P w) 9 fa fd ["_law_script"] (lowScr K spLawT) := by
  have V : Env K mg CCache := {
    b_len := PySem.W.mg_none_of X G z_len,
    b_abs := PySem.W.mg_none_of X G z_abs,
    b_int := PySem.W.mg_none_of X G z_int,
    b_list := PySem.W.mg_none_of X G z_list,
    b_tuple := PySem.W.mg_none_of X G z_tuple,
    b_sorted := PySem.W.mg_none_of X G z_sorted,
    b_dict := PySem.W.mg_none_of X G z_dict,
    b_isinstance := PySem.W.mg_none_of X G z_isinstance,
    b_range := PySem.W.mg_none_of X G z_range,
    b_enumerate := PySem.W.mg_none_of X G z_enumerate,
    b_zip := PySem.W.mg_none_of X G z_zip,
    b_str := PySem.W.mg_none_of X G z_str,
    b_bool := PySem.W.mg_none_of X G z_bool,
    g_LETTERS := ⟨_, PySem.W.mg_of X G gLETTERS⟩,
    g_MOST_KEPT := ⟨_, PySem.W.mg_of X G gMOST_KEPT⟩,
    g_MOST_SETS := ⟨_, PySem.W.mg_of X G gMOST_SETS⟩,
    g_MOST_WAYS := ⟨_, PySem.W.mg_of X G gMOST_WAYS⟩,
    d_is_integer := ⟨fis_integer, _, fun_mk (st := (top 8)) lis_integer cis_integer kis_integer, PySem.W.mg_of X G ais_integer, (fun_mk (st := (top 8)) lis_integer cis_integer kis_integer).binds (ps := ["value"]) fun _ _ _ _ _ _ us hl => match us, hl with | [_], _ => rfl⟩,
    d_is_name := ⟨fis_name, _, fun_mk (st := (top 9)) lis_name cis_name kis_name, PySem.W.mg_of X G ais_name, (fun_mk (st := (top 9)) lis_name cis_name kis_name).binds (ps := ["value"]) fun _ _ _ _ _ _ us hl => match us, hl with | [_], _ => rfl⟩,
    d_is_set := ⟨fis_set, _, fun_mk (st := (top 14)) lis_set cis_set kis_set, PySem.W.mg_of X G ais_set, (fun_mk (st := (top 14)) lis_set cis_set kis_set).binds (ps := ["value"]) fun _ _ _ _ _ _ us hl => match us, hl with | [_], _ => rfl⟩,
    d_is_layout := ⟨fis_layout, _, fun_mk (st := (top 15)) lis_layout cis_layout kis_layout, PySem.W.mg_of X G ais_layout, (fun_mk (st := (top 15)) lis_layout cis_layout kis_layout).binds (ps := ["value"]) fun _ _ _ _ _ _ us hl => match us, hl with | [_], _ => rfl⟩,
    d_need_layout := ⟨fneed_layout, _, fun_mk (st := (top 16)) lneed_layout cneed_layout kneed_layout, PySem.W.mg_of X G aneed_layout, (fun_mk (st := (top 16)) lneed_layout cneed_layout kneed_layout).binds (ps := ["value"]) fun _ _ _ _ _ _ us hl => match us, hl with | [_], _ => rfl⟩,
    d_need_block := ⟨fneed_block, _, fun_mk (st := (top 17)) lneed_block cneed_block kneed_block, PySem.W.mg_of X G aneed_block, (fun_mk (st := (top 17)) lneed_block cneed_block kneed_block).binds (ps := ["layout", "value"]) fun _ _ _ _ _ _ us hl => match us, hl with | [_, _], _ => rfl⟩,
    d_need_ways := ⟨fneed_ways, _, fun_mk (st := (top 18)) lneed_ways cneed_ways kneed_ways, PySem.W.mg_of X G aneed_ways, (fun_mk (st := (top 18)) lneed_ways cneed_ways kneed_ways).binds (ps := ["value"]) fun _ _ _ _ _ _ us hl => match us, hl with | [_], _ => rfl⟩,
    d_distances_of := ⟨fdistances_of, _, fun_mk (st := (top 20)) ldistances_of cdistances_of kdistances_of, PySem.W.mg_of X G adistances_of, (fun_mk (st := (top 20)) ldistances_of cdistances_of kdistances_of).binds (ps := ["blocks", "layout"]) fun _ _ _ _ _ _ us hl => match us, hl with | [_, _], _ => rfl⟩,
    d_hits_of := ⟨fhits_of, _, _, funD_mk (st := (top 21)) lhits_of chits_of khits_of qhits_of, PySem.W.mg_of X G ahits_of, (tt_rel thits_of), kb_mk (ps := ["blocks", "layout", "ways", "start"]) (n := 3) (funD_mk (st := (top 21)) lhits_of chits_of khits_of qhits_of) (fun _ _ _ _ _ _ us ws e1 e2 => match us, e1, ws, e2 with | [_, _, _], _, [_], _ => rfl), b0_mk (ps := ["blocks", "layout", "ways", "start"]) (n := 3) (funD_mk (st := (top 21)) lhits_of chits_of khits_of qhits_of) rfl (fun _ _ _ _ _ _ us v e1 => match us, e1 with | [_, _, _], _ => ⟨_, _, _, _, _, _, rfl, rfl, rfl⟩)⟩,
    d__law_begin := ⟨f_law_begin, _, fun_mk (st := (top 23)) l_law_begin c_law_begin k_law_begin, PySem.W.mg_of X G a_law_begin, (fun_mk (st := (top 23)) l_law_begin c_law_begin k_law_begin).binds (ps := ["_law_script"]) fun _ _ _ _ _ _ us hl => match us, hl with | [_], _ => rfl⟩,
    d__law_take := ⟨f_law_take, _, fun_mk (st := (top 24)) l_law_take c_law_take k_law_take, PySem.W.mg_of X G a_law_take, (fun_mk (st := (top 24)) l_law_take c_law_take k_law_take).binds (ps := ["_law_draw", "_law_size"]) fun _ _ _ _ _ _ us hl => match us, hl with | [_, _], _ => rfl⟩,
    d__law_pick := ⟨f_law_pick, _, fun_mk (st := (top 25)) l_law_pick c_law_pick k_law_pick, PySem.W.mg_of X G a_law_pick, (fun_mk (st := (top 25)) l_law_pick c_law_pick k_law_pick).binds (ps := ["_law_draw", "_law_some"]) fun _ _ _ _ _ _ us hl => match us, hl with | [_, _], _ => rfl⟩,
    d__law_shuffled := ⟨f_law_shuffled, _, fun_mk (st := (top 26)) l_law_shuffled c_law_shuffled k_law_shuffled, PySem.W.mg_of X G a_law_shuffled, (fun_mk (st := (top 26)) l_law_shuffled c_law_shuffled k_law_shuffled).binds (ps := ["_law_draw", "_law_some"]) fun _ _ _ _ _ _ us hl => match us, hl with | [_, _], _ => rfl⟩,
    d__law_hits := ⟨f_law_hits, _, fun_mk (st := (top 27)) l_law_hits c_law_hits k_law_hits, PySem.W.mg_of X G a_law_hits, (fun_mk (st := (top 27)) l_law_hits c_law_hits k_law_hits).binds (ps := ["_law_homes", "_law_seen", "_law_width", "_law_kept"]) fun _ _ _ _ _ _ us hl => match us, hl with | [_, _, _, _], _ => rfl⟩,
    d__law_blocks := ⟨f_law_blocks, _, fun_mk (st := (top 28)) l_law_blocks c_law_blocks k_law_blocks, PySem.W.mg_of X G a_law_blocks, (fun_mk (st := (top 28)) l_law_blocks c_law_blocks k_law_blocks).binds (ps := ["_law_draw", "_law_many"]) fun _ _ _ _ _ _ us hl => match us, hl with | [_, _], _ => rfl⟩,
    d__law_best_start := ⟨f_law_best_start, _, fun_mk (st := (top 29)) l_law_best_start c_law_best_start k_law_best_start, PySem.W.mg_of X G a_law_best_start, (fun_mk (st := (top 29)) l_law_best_start c_law_best_start k_law_best_start).binds (ps := ["_law_homes", "_law_seen", "_law_width"]) fun _ _ _ _ _ _ us hl => match us, hl with | [_, _, _], _ => rfl⟩,
    d_law := ⟨flaw, _, fun_mk (st := (top 30)) llaw claw klaw, PySem.W.mg_of X G alaw, (fun_mk (st := (top 30)) llaw claw klaw).binds (ps := ["_law_script"]) fun _ _ _ _ _ _ us hl => match us, hl with | [_], _ => rfl⟩,
    c_Cache := ⟨pgCache, hdCache, poCache, saCache⟩,
    n_Cache_place_of := nCache_place_of,
    n_Cache_room := nCache_room,
    n_Cache_rows := nCache_rows,
    d_Cache_init := ⟨fCache_init, _, _, funD_mk (st := (inClass (top 19) 0)) lCache_init cCache_init kCache_init qCache_init, ⟨mkCache, aCache_init, iCache_init, kcCache⟩, PySem.W.mg_of X G aCCache, (tt_rel tCache_init), kb_mk (ps := ["self", "layout", "ways", "start"]) (n := 3) (funD_mk (st := (inClass (top 19) 0)) lCache_init cCache_init kCache_init qCache_init) (fun _ _ _ _ _ _ us ws e1 e2 => match us, e1, ws, e2 with | [_, _, _], _, [_], _ => rfl), b0_mk (ps := ["self", "layout", "ways", "start"]) (n := 3) (funD_mk (st := (inClass (top 19) 0)) lCache_init cCache_init kCache_init qCache_init) rfl (fun _ _ _ _ _ _ us v e1 => match us, e1 with | [_, _, _], _ => ⟨_, _, _, _, _, _, rfl, rfl, rfl⟩)⟩,
    d_Cache_touch := ⟨fCache_touch, _, fun_mk (st := (inClass (top 19) 4)) lCache_touch cCache_touch kCache_touch, ⟨aCache_touch, iCache_touch, kCache_touch⟩, (fun_mk (st := (inClass (top 19) 4)) lCache_touch cCache_touch kCache_touch).binds (ps := ["self", "block"]) fun _ _ _ _ _ _ us hl => match us, hl with | [_, _], _ => rfl⟩ }
  have e := hfa.symm.trans (PySem.W.mg_of X G alaw)
  cases e
  exact ⟨_, fun s u => .of_eq rfl, fun base _ _ => law_fn (fun_mk (st := (top 30)) llaw claw klaw) V⟩

theorem walk {l : PySem.W.OpenLaw} {q : Program} {loose : List Str} {XP : (Str → Option Value) → Heap → Prop} {YP : World → Heap → Prop} {d : DefRec} {K : Params → PySem.W.Frag} (hn : l.most = some 63) (hdf : d.params.defaults = [])
    (hY : ∀ (w : World) (h : Heap), YP w h → (K w.params).In h)
    (F : ∀ (w : World) (mg : Str → Option Value) (fa : Addr) (h : Heap), (K w.params).In h → h.Ns mainGlobals mg → mg d.name = some (.ref fa) →
      ∃ fd : FuncData, (∀ (s : Shared) (u : Value), BindsTo s fd ⟨[u], []⟩ [("_law_script", u)]) ∧ ∀ base : Heap, (K w.params).In base → base.Ns mainGlobals mg → FnOk l.prog w (K w.params) mg base (L2.CX l.prog w) 9 fa fd ["_law_script"] (lowScr (K w.params) spLawT)) :
    PySem.W.WalkO q loose XP YP l.row.toRowW d [] (fun f vs => PySem.call f vs) :=
  L2.walk_of (n := 63) (k := 9) (x := "_law_script") (CX := fun w => L2.CX l.prog w) (sp := fun w => lowScr (K w.params) spLawT) hn (by decide) hdf ⟨rfl, by decide, by decide⟩ hY F (fun w H a ns hl hO hS => scr_start hl hO hS) fun _ _ _ _ _ z => cx_never z
end K16
open PySem PySem.W PyProof.Rows
set_option maxRecDepth 100000 in
set_option maxHeartbeats 0 in
theorem PySem.Challenge.cw_everymiss_k16_whole_any_start_holds : PySem.Challenge.rw_everymiss_k16_whole_any_start.Holds := by
  w_on; o_law; k_head; (case hw => w_witness2)
  k_fill
  refine K16.walk (l := PySem.Challenge.rw_everymiss_k16_whole_any_start) rfl rfl (fun w h Y => PySem.W.kIn_of Y) ?F
  case F =>
    intro w mg fa h KX G hmg
    refine' K16.all_mk KX G hmg ?z_len ?z_abs ?z_int ?z_list ?z_tuple ?z_sorted ?z_dict ?z_isinstance ?z_range ?z_enumerate ?z_zip ?z_str ?z_bool ?gLETTERS ?gMOST_KEPT ?gMOST_SETS ?gMOST_WAYS ?ais_integer ?lis_integer ?cis_integer ?kis_integer ?ais_name ?lis_name ?cis_name ?kis_name ?ais_set ?lis_set ?cis_set ?kis_set ?ais_layout ?lis_layout ?cis_layout ?kis_layout ?aneed_layout ?lneed_layout ?cneed_layout ?kneed_layout ?aneed_block ?lneed_block ?cneed_block ?kneed_block ?aneed_ways ?lneed_ways ?cneed_ways ?kneed_ways ?adistances_of ?ldistances_of ?cdistances_of ?kdistances_of ?ahits_of ?lhits_of ?chits_of ?khits_of ?qhits_of ?thits_of ?a_law_begin ?l_law_begin ?c_law_begin ?k_law_begin ?a_law_take ?l_law_take ?c_law_take ?k_law_take ?a_law_pick ?l_law_pick ?c_law_pick ?k_law_pick ?a_law_shuffled ?l_law_shuffled ?c_law_shuffled ?k_law_shuffled ?a_law_hits ?l_law_hits ?c_law_hits ?k_law_hits ?a_law_blocks ?l_law_blocks ?c_law_blocks ?k_law_blocks ?a_law_best_start ?l_law_best_start ?c_law_best_start ?k_law_best_start ?alaw ?llaw ?claw ?klaw ?aCCache ?pgCache ?hdCache ?poCache ?saCache ?mkCache ?kcCache ?nCache_place_of ?nCache_room ?nCache_rows ?aCache_init ?iCache_init ?lCache_init ?cCache_init ?kCache_init ?qCache_init ?tCache_init ?aCache_touch ?iCache_touch ?lCache_touch ?cCache_touch ?kCache_touch
    (case z_len => k_is)
    (case z_abs => k_is)
    (case z_int => k_is)
    (case z_list => k_is)
    (case z_tuple => k_is)
    (case z_sorted => k_is)
    (case z_dict => k_is)
    (case z_isinstance => k_is)
    (case z_range => k_is)
    (case z_enumerate => k_is)
    (case z_zip => k_is)
    (case z_str => k_is)
    (case z_bool => k_is)
    (case gLETTERS => k_is)
    (case gMOST_KEPT => k_is)
    (case gMOST_SETS => k_is)
    (case gMOST_WAYS => k_is)
    (case ais_integer => k_is)
    (case lis_integer => k_is)
    (case cis_integer => k_is)
    (case kis_integer => k_is)
    (case ais_name => k_is)
    (case lis_name => k_is)
    (case cis_name => k_is)
    (case kis_name => k_is)
    (case ais_set => k_is)
    (case lis_set => k_is)
    (case cis_set => k_is)
    (case kis_set => k_is)
    (case ais_layout => k_is)
    (case lis_layout => k_is)
    (case cis_layout => k_is)
    (case kis_layout => k_is)
    (case aneed_layout => k_is)
    (case lneed_layout => k_is)
    (case cneed_layout => k_is)
    (case kneed_layout => k_is)
    (case aneed_block => k_is)
    (case lneed_block => k_is)
    (case cneed_block => k_is)
    (case kneed_block => k_is)
    (case aneed_ways => k_is)
    (case lneed_ways => k_is)
    (case cneed_ways => k_is)
    (case kneed_ways => k_is)
    (case adistances_of => k_is)
    (case ldistances_of => k_is)
    (case cdistances_of => k_is)
    (case kdistances_of => k_is)
    (case ahits_of => k_is)
    (case lhits_of => k_is)
    (case chits_of => k_is)
    (case khits_of => k_is)
    (case qhits_of => k_is)
    (case thits_of => k_is)
    (case a_law_begin => k_is)
    (case l_law_begin => k_is)
    (case c_law_begin => k_is)
    (case k_law_begin => k_is)
    (case a_law_take => k_is)
    (case l_law_take => k_is)
    (case c_law_take => k_is)
    (case k_law_take => k_is)
    (case a_law_pick => k_is)
    (case l_law_pick => k_is)
    (case c_law_pick => k_is)
    (case k_law_pick => k_is)
    (case a_law_shuffled => k_is)
    (case l_law_shuffled => k_is)
    (case c_law_shuffled => k_is)
    (case k_law_shuffled => k_is)
    (case a_law_hits => k_is)
    (case l_law_hits => k_is)
    (case c_law_hits => k_is)
    (case k_law_hits => k_is)
    (case a_law_blocks => k_is)
    (case l_law_blocks => k_is)
    (case c_law_blocks => k_is)
    (case k_law_blocks => k_is)
    (case a_law_best_start => k_is)
    (case l_law_best_start => k_is)
    (case c_law_best_start => k_is)
    (case k_law_best_start => k_is)
    (case alaw => k_is)
    (case llaw => k_is)
    (case claw => k_is)
    (case klaw => k_is)
    (case aCCache => k_is)
    (case pgCache => k_is)
    (case hdCache => k_is)
    (case poCache => k_is)
    (case saCache => k_is)
    (case mkCache => k_is)
    (case kcCache => k_is)
    (case nCache_place_of => k_is)
    (case nCache_room => k_is)
    (case nCache_rows => k_is)
    (case aCache_init => k_is)
    (case iCache_init => k_is)
    (case lCache_init => k_is)
    (case cCache_init => k_is)
    (case kCache_init => k_is)
    (case qCache_init => k_is)
    (case tCache_init => k_is)
    (case aCache_touch => k_is)
    (case iCache_touch => k_is)
    (case lCache_touch => k_is)
    (case cCache_touch => k_is)
    (case kCache_touch => k_is)
