import PyProof.Rows.All
import Wide.All
import OpenK.AllK
import Wide.FinOn
import HandS.ForMost
import HandS.TupAny
import HandS.Deep
import HandS.Style
import HandS.More
import HandS.DictComp
import HandS.Zip
import HandS.WordsExc
import HandS.IsInst
import HandS.Defaults
import HandS.MakeKwOnly
import HandS.Strs
import PyProof.DictUpdate
import HandS.Property
import HandS.Set
import HandS.SetFor
import HandS.SetTxt0
import PyProof.Rows.SortShellAny
import PyProof.ReprRoads
import HandS.Text
import PyProof.Rows.ReprShort
import HandS.ListItems
import PySem.Challenge.RW_everymiss_k17_elements_told
set_option Elab.async false
set_option linter.all false
set_option maxRecDepth 100000
set_option maxHeartbeats 4000000
/-! Deep values over the hand layer: tuples are values here, lists, dicts and objects stand at addresses. -/
namespace Dv
open PySem L2

abbrev Fr0 := PySem.W.Frag
inductive T where
  | non | bl (b : Bool) | int (i : Int) | str (x : Str) | tup (xs : List T) | ref (a : Addr) | ty (n : String) | ptup (xs : List T)
inductive O where
  | lst (xs : List T)
  | dic (kvs : List (T × T))
  | fdic (ob : Obj) (raw : List (Key × V)) (kvs : List (T × T))
  | ins (C : Addr) (fs : List (Str × T))
  | drw (n : Nat)
abbrev Gp := Addr → Option O
def gup (G : Gp) (a : Addr) (o : O) : Gp := fun b => if b = a then some o else G b
theorem gup_same {G : Gp} {a : Addr} {o : O} : gup G a o a = some o := by unfold gup; simp
theorem gup_ne {G : Gp} {a b : Addr} {o : O} (h : b ≠ a) : gup G a o b = G b := by unfold gup; simp [h]
theorem gup_gup {G : Gp} {a : Addr} {o u : O} : gup (gup G a o) a u = gup G a u := by
  funext b; unfold gup; split <;> rfl
theorem gup_comm {G : Gp} {a b : Addr} {o u : O} (h : a ≠ b) : gup (gup G a o) b u = gup (gup G b u) a o := by
  funext c; unfold gup
  by_cases h1 : c = b
  · subst h1; simp [Ne.symm h]
  · simp [h1]

mutual
inductive Rel (K : Fr0) (H : Hp) : V → T → Prop
  | non : Rel K H .non .non
  | bl (b : Bool) : Rel K H (.bl b) (.bl b)
  | int (i : Int) : Rel K H (.int i) (.int i)
  | str (x : Str) : Rel K H (.str x) (.str x)
  | ty (n : String) : Rel K H (.ty n) (.ty n)
  | ref (a : Addr) : Rel K H (.ref a) (.ref a)
  | tup {p : Addr} {xs : List V} {ts : List T} : SqT K H p xs → RelL K H xs ts → Rel K H (.ref p) (.tup ts)
  | ptup {p : Addr} {o : Obj} {xs : List V} {ts : List T} : H p = some (.frz o (.tup xs)) → o.dict = none → RelL K H xs ts → Rel K H (.ref p) (.ptup ts)
inductive RelL (K : Fr0) (H : Hp) : List V → List T → Prop
  | nil : RelL K H [] []
  | cons {v : V} {t : T} {vs : List V} {ts : List T} : Rel K H v t → RelL K H vs ts → RelL K H (v :: vs) (t :: ts)
end

def Stay (K : Fr0) (H H' : Hp) : Prop := (∀ p xs, SqT K H p xs → SqT K H' p xs) ∧ ∀ p o xs, H p = some (.frz o (.tup xs)) → H' p = some (.frz o (.tup xs))
mutual
theorem Rel.stay {K : Fr0} {H H' : Hp} (st : Stay K H H') : ∀ {t : T} {v : V}, Rel K H v t → Rel K H' v t
  | .non, _, .non => .non
  | .bl _, _, .bl _ => .bl _
  | .int _, _, .int _ => .int _
  | .str _, _, .str _ => .str _
  | .ty _, _, .ty _ => .ty _
  | .ref _, _, .ref _ => .ref _
  | .tup _, _, .tup h r => .tup (st.1 _ _ h) (RelL.stay st r)
  | .ptup _, _, .ptup h d r => .ptup (st.2 _ _ _ h) d (RelL.stay st r)
theorem RelL.stay {K : Fr0} {H H' : Hp} (st : Stay K H H') : ∀ {ts : List T} {vs : List V}, RelL K H vs ts → RelL K H' vs ts
  | [], _, .nil => .nil
  | _ :: _, _, .cons r t => .cons (Rel.stay st r) (RelL.stay st t)
end
theorem RelL.length {K : Fr0} {H : Hp} : ∀ {vs : List V} {ts : List T}, RelL K H vs ts → vs.length = ts.length
  | _, _, .nil => rfl
  | _, _, .cons _ r => by simp [RelL.length r]
theorem RelL.get {K : Fr0} {H : Hp} : ∀ {vs : List V} {ts : List T} {i : Nat} {t : T}, RelL K H vs ts → ts[i]? = some t → ∃ v, vs[i]? = some v ∧ Rel K H v t
  | _, _, i, t, .nil, e => by simp at e
  | _, _, 0, t, .cons r _, e => by simp at e; subst e; exact ⟨_, by simp, r⟩
  | _, _, i + 1, t, .cons _ r, e => by
    obtain ⟨v, h1, h2⟩ := RelL.get (i := i) (t := t) r (by simpa using e)
    exact ⟨v, by simpa using h1, h2⟩
theorem RelL.getV {K : Fr0} {H : Hp} : ∀ {vs : List V} {ts : List T} {i : Nat} {v : V}, RelL K H vs ts → vs[i]? = some v → ∃ t, ts[i]? = some t ∧ Rel K H v t
  | _, _, i, v, .nil, e => by simp at e
  | _, _, 0, v, .cons r _, e => by simp at e; subst e; exact ⟨_, by simp, r⟩
  | _, _, i + 1, v, .cons _ r, e => by
    obtain ⟨t, h1, h2⟩ := RelL.getV (i := i) (v := v) r (by simpa using e)
    exact ⟨t, by simpa using h1, h2⟩
theorem RelL.app {K : Fr0} {H : Hp} : ∀ {vs ws : List V} {ts us : List T}, RelL K H vs ts → RelL K H ws us → RelL K H (vs ++ ws) (ts ++ us)
  | _, _, _, _, .nil, s => s
  | _, _, _, _, .cons r t, s => .cons r (RelL.app t s)
theorem RelL.drop {K : Fr0} {H : Hp} : ∀ {vs : List V} {ts : List T} (n : Nat), RelL K H vs ts → RelL K H (vs.drop n) (ts.drop n)
  | _, _, 0, r => r
  | _, _, _ + 1, .nil => .nil
  | _, _, n + 1, .cons _ r => RelL.drop n r
theorem RelL.take {K : Fr0} {H : Hp} : ∀ {vs : List V} {ts : List T} (n : Nat), RelL K H vs ts → RelL K H (vs.take n) (ts.take n)
  | _, _, 0, _ => .nil
  | _, _, _ + 1, .nil => .nil
  | _, _, n + 1, .cons h r => .cons h (RelL.take n r)
theorem RelL.set {K : Fr0} {H : Hp} {v : V} {t : T} (h : Rel K H v t) : ∀ {vs : List V} {ts : List T} (n : Nat), RelL K H vs ts → RelL K H (vs.set n v) (ts.set n t)
  | _, _, _, .nil => .nil
  | _, _, 0, .cons _ r => .cons h r
  | _, _, n + 1, .cons q r => .cons q (RelL.set h n r)
theorem RelL.erase {K : Fr0} {H : Hp} : ∀ {vs : List V} {ts : List T} (n : Nat), RelL K H vs ts → RelL K H (vs.eraseIdx n) (ts.eraseIdx n)
  | _, _, _, .nil => .nil
  | _, _, 0, .cons _ r => r
  | _, _, n + 1, .cons q r => .cons q (RelL.erase n r)
theorem RelL.rev {K : Fr0} {H : Hp} : ∀ {vs : List V} {ts : List T}, RelL K H vs ts → RelL K H vs.reverse ts.reverse
  | _, _, .nil => .nil
  | _, _, .cons q r => by
    rw [List.reverse_cons, List.reverse_cons]
    exact (RelL.rev r).app (.cons q .nil)

/-- a key as a deep value -/
def kT : Key → T
  | .inl i => .int i
  | .inr x => .str x
inductive RelD (K : Fr0) (H : Hp) : List (Key × V) → List (T × T) → Prop
  | nil : RelD K H [] []
  | cons {k : Key} {v : V} {t : T} {kvs : List (Key × V)} {ts : List (T × T)} : Rel K H v t → RelD K H kvs ts → RelD K H ((k, v) :: kvs) ((kT k, t) :: ts)
inductive RelF (K : Fr0) (H : Hp) : List (Str × V) → List (Str × T) → Prop
  | nil : RelF K H [] []
  | cons {k : Str} {v : V} {t : T} {kvs : List (Str × V)} {ts : List (Str × T)} : Rel K H v t → RelF K H kvs ts → RelF K H ((k, v) :: kvs) ((k, t) :: ts)
theorem RelD.stay {K : Fr0} {H H' : Hp} (st : Stay K H H') : ∀ {vs : List (Key × V)} {ts : List (T × T)}, RelD K H vs ts → RelD K H' vs ts
  | _, _, .nil => .nil
  | _, _, .cons r t => .cons (r.stay st) (RelD.stay st t)
theorem RelF.stay {K : Fr0} {H H' : Hp} (st : Stay K H H') : ∀ {vs : List (Str × V)} {ts : List (Str × T)}, RelF K H vs ts → RelF K H' vs ts
  | _, _, .nil => .nil
  | _, _, .cons r t => .cons (r.stay st) (RelF.stay st t)

/-- the dict of the draws as it stands -/
def drawKvs (lg it : Addr) (l t : Int) : List (Key × V) := [(.inr "large", .ref lg), (.inr "items", .ref it), (.inr "left", .int l), (.inr "turn", .int t)]
structure DrawR (H : Hp) (d : Addr) (n : Nat) (lg it : Addr) (l t : Int) (ls is : List Int) : Prop where
  hd : H d = some (.dK (drawKvs lg it l t))
  hlg : H lg = some (.lst (ls.map .int))
  hit : H it = some (.lst (is.map .int))
  ne : lg ≠ it
  lpos : ∀ x ∈ ls, 0 ≤ x
  ipos : ∀ x ∈ is, 0 ≤ x
  ilen : is.length ≤ 63
  llen : ls.length ≤ 63
  l0 : 0 ≤ l
  t0 : 0 ≤ t
  tn : t ≤ n
def Hid (H : Hp) (d b : Addr) : Prop := ∃ lg it l t, H d = some (.dK (drawKvs lg it l t)) ∧ (b = lg ∨ b = it)
def ORel (K : Fr0) (H : Hp) (a : Addr) : O → Prop
  | .lst ts => ∃ vs, H a = some (.lst vs) ∧ RelL K H vs ts
  | .dic ts => ∃ vs, H a = some (.dK vs) ∧ RelD K H vs ts
  | .fdic ob vs ts => H a = some (.frz ob (.dK vs)) ∧ RelD K H vs ts
  | .ins C ts => ∃ dx vs, H a = some (.ins C dx vs) ∧ RelF K H vs ts
  | .drw n => ∃ lg it l t ls is, DrawR H a n lg it l t ls is
def Own (H : Hp) (G : Gp) (a : Addr) : Prop := (∃ o, G a = some o) ∨ ∃ d n, G d = some (.drw n) ∧ Hid H d a
structure Step (H : Hp) (G : Gp) (H' : Hp) (G' : Gp) : Prop where
  fr : ∀ a o, H a = some o → ¬ Own H G a → H' a = some o ∧ ¬ Own H' G' a
  al : ∀ a o, H a = some o → ∃ o', H' a = some o'
theorem Step.refl (H : Hp) (G : Gp) : Step H G H G := ⟨fun _ _ h n => ⟨h, n⟩, fun _ o h => ⟨o, h⟩⟩
theorem Step.trans {H H1 H2 : Hp} {G G1 G2 : Gp} (a : Step H G H1 G1) (b : Step H1 G1 H2 G2) : Step H G H2 G2 :=
  ⟨fun c o h n => let ⟨h1, n1⟩ := a.fr c o h n; b.fr c o h1 n1, fun c o h => let ⟨o1, h1⟩ := a.al c o h; b.al c o1 h1⟩

/-- the states at the entries of what runs -/
abbrev En := List (Hp × Gp)
structure HRel (K : Fr0) (en : En) (H : Hp) (G : Gp) : Prop where
  obj : ∀ a o, G a = some o → ORel K H a o
  sep : ∀ d n b, G d = some (.drw n) → Hid H d b → G b = none
  one : ∀ d d' n n', G d = some (.drw n) → G d' = some (.drw n') → d = d'
  hist : ∀ e ∈ en, Step e.1 e.2 H G
/-- what a tracked cell holds below: no tuple -/
def kind : HO → Bool
  | .lst _ => true
  | .dK _ => true
  | .ins _ _ _ => true
  | .frz _ (.dK _) => true
  | _ => false
theorem ORel.kind {K : Fr0} {H : Hp} {a : Addr} {o : O} (h : ORel K H a o) : ∃ u, H a = some u ∧ kind u = true := by
  cases o with
  | lst ts => obtain ⟨vs, h, _⟩ := h; exact ⟨_, h, rfl⟩
  | dic ts => obtain ⟨vs, h, _⟩ := h; exact ⟨_, h, rfl⟩
  | fdic ob vs ts => obtain ⟨h, _⟩ := h; exact ⟨_, h, rfl⟩
  | ins C ts => obtain ⟨dx, vs, h, _⟩ := h; exact ⟨_, h, rfl⟩
  | drw n => obtain ⟨lg, it, l, t, ls, is, h⟩ := h; exact ⟨_, h.hd, rfl⟩
theorem drawKvs_inj {lg it lg' it' : Addr} {l t l' t' : Int} (h : drawKvs lg it l t = drawKvs lg' it' l' t') : lg = lg' ∧ it = it' ∧ l = l' ∧ t = t' := by
  unfold drawKvs at h
  simp at h
  exact ⟨h.1, h.2.1, h.2.2.1, h.2.2.2⟩
theorem Hid.kind {K : Fr0} {H : Hp} {G : Gp} {d b : Addr} {n : Nat} (g : HRel K en H G) (e : G d = some (.drw n)) (h : Hid H d b) : ∃ vs, H b = some (.lst vs) := by
  obtain ⟨lg, it, l, t, ls, is, r⟩ := g.obj d _ e
  obtain ⟨lg', it', l', t', e', hb⟩ := h
  rw [r.hd] at e'
  obtain ⟨e1, e2, _, _⟩ := drawKvs_inj (HO.dK.inj (Option.some.inj e'))
  subst e1 e2
  rcases hb with rfl | rfl
  · exact ⟨_, r.hlg⟩
  · exact ⟨_, r.hit⟩
theorem HRel.own_kind {K : Fr0} {H : Hp} {G : Gp} {a : Addr} (g : HRel K en H G) (h : Own H G a) : ∃ u, H a = some u ∧ kind u = true := by
  rcases h with ⟨o, e⟩ | ⟨d, n, e, h⟩
  · exact (g.obj a o e).kind
  · obtain ⟨vs, q⟩ := Hid.kind g e h
    exact ⟨_, q, rfl⟩
theorem Step.stay {K : Fr0} {H H' : Hp} {G G' : Gp} (g : HRel K en H G) (s : Step H G H' G') : Stay K H H' := by
  have nown : ∀ p o, H p = some o → kind o = false → H' p = some o := by
    intro p o e h1
    refine (s.fr p o e fun z => ?_).1
    obtain ⟨u, q, h2⟩ := g.own_kind z
    rw [e] at q
    cases q
    rw [h1] at h2
    cases h2
  refine ⟨fun p xs h => ?_, fun p o xs h => nown p _ h rfl⟩
  rcases h with (h | ⟨o, h⟩) | h
  · exact .inl (.inl (nown _ _ h rfl))
  · exact .inl (.inr ⟨o, nown _ _ h rfl⟩)
  · exact .inr h
theorem ORel.stay {K : Fr0} {H H' : Hp} {a : Addr} {o : O} (st : Stay K H H') (hd : ∀ n, o ≠ .drw n) (e : H' a = H a) (h : ORel K H a o) : ORel K H' a o := by
  cases o with
  | lst ts => obtain ⟨vs, h, r⟩ := h; exact ⟨vs, e.trans h, r.stay st⟩
  | dic ts => obtain ⟨vs, h, r⟩ := h; exact ⟨vs, e.trans h, r.stay st⟩
  | fdic ob vs ts => obtain ⟨h, r⟩ := h; exact ⟨e.trans h, r.stay st⟩
  | ins C ts => obtain ⟨dx, vs, h, r⟩ := h; exact ⟨dx, vs, e.trans h, r.stay st⟩
  | drw n => exact absurd rfl (hd n)
/-- what a tracked cell, or a new one, is turned into -/
theorem HRel.upd {K : Fr0} {H : Hp} {G : Gp} {a : Addr} {ho : HO} {o : O} (g : HRel K en H G) (ha : H a = none ∨ ∃ u, G a = some u ∧ ∀ n, u ≠ .drw n) (hd : ∀ n, o ≠ .drw n) (new : ORel K (L2.upd H a ho) a o) :
    HRel K en (L2.upd H a ho) (gup G a o) ∧ Step H G (L2.upd H a ho) (gup G a o) ∧ Stay K H (L2.upd H a ho) := by
  have hgn : ∀ n, G a ≠ some (.drw n) := by
    intro n z
    rcases ha with e | ⟨u, e, q⟩
    · obtain ⟨_, _, _, _, _, _, r⟩ := g.obj a _ z
      rw [r.hd] at e; cases e
    · rw [z] at e; exact q n (Option.some.inj e).symm
  have hnb : ∀ d n b, G d = some (.drw n) → Hid H d b → b ≠ a := by
    intro d n b e h z
    subst z
    rcases ha with e1 | ⟨u, e1, q⟩
    · obtain ⟨vs, e2⟩ := Hid.kind g e h
      rw [e1] at e2; cases e2
    · rw [g.sep d n b e h] at e1; cases e1
  have hda : ∀ d n, G d = some (.drw n) → d ≠ a := fun d n e z => hgn n (z ▸ e)
  have hidE : ∀ d n b, G d = some (.drw n) → (Hid (L2.upd H a ho) d b ↔ Hid H d b) := by
    intro d n b e
    unfold Hid
    rw [upd_ne (hda d n e)]
  have gdr : ∀ d n, gup G a o d = some (.drw n) ↔ G d = some (.drw n) := by
    intro d n
    by_cases h : d = a
    · subst h
      rw [gup_same]
      exact ⟨fun z => absurd (Option.some.inj z) (hd n), fun z => absurd z (hgn n)⟩
    · rw [gup_ne h]
  have ownE : ∀ b, b ≠ a → (Own (L2.upd H a ho) (gup G a o) b ↔ Own H G b) := by
    intro b hb
    unfold Own
    rw [gup_ne hb]
    constructor
    · rintro (z | ⟨d, n, e, h⟩)
      · exact .inl z
      · exact .inr ⟨d, n, (gdr d n).mp e, (hidE d n b ((gdr d n).mp e)).mp h⟩
    · rintro (z | ⟨d, n, e, h⟩)
      · exact .inl z
      · exact .inr ⟨d, n, (gdr d n).mpr e, (hidE d n b e).mpr h⟩
  have st : Stay K H (L2.upd H a ho) := by
    have pne : ∀ p u, H p = some u → kind u = false → p ≠ a := by
      intro p u e h1 z
      subst z
      rcases ha with e1 | ⟨u1, e1, q⟩
      · rw [e1] at e; cases e
      · obtain ⟨u2, q, h2⟩ := (g.obj p u1 e1).kind
        rw [e] at q
        cases q
        rw [h1] at h2
        cases h2
    refine ⟨fun p xs h => ?_, fun p o xs h => by rw [upd_ne (pne _ _ h rfl)]; exact h⟩
    rcases h with (h | ⟨u, h⟩) | h
    · exact .inl (.inl (by rw [upd_ne (pne _ _ h rfl)]; exact h))
    · exact .inl (.inr ⟨u, by rw [upd_ne (pne _ _ h rfl)]; exact h⟩)
    · exact .inr h
  have stp : Step H G (L2.upd H a ho) (gup G a o) := by
    refine ⟨fun b u e no => ?_, fun b u e => ?_⟩
    · have hb : b ≠ a := by
        intro z
        subst z
        rcases ha with e1 | ⟨u1, e1, _⟩
        · rw [e1] at e; cases e
        · exact no (.inl ⟨u1, e1⟩)
      exact ⟨by rw [upd_ne hb]; exact e, fun z => no ((ownE b hb).mp z)⟩
    · by_cases hb : b = a
      · subst hb; exact ⟨_, upd_same⟩
      · exact ⟨u, by rw [upd_ne hb]; exact e⟩
  refine ⟨⟨fun b u e => ?_, fun d n b e h => ?_, fun d d' n n' e e' => g.one d d' n n' ((gdr d n).mp e) ((gdr d' n').mp e'), fun e he => (g.hist e he).trans stp⟩, stp, st⟩
  · by_cases hb : b = a
    · subst hb
      rw [gup_same] at e
      cases e
      exact new
    · rw [gup_ne hb] at e
      by_cases hdr : ∃ n, u = .drw n
      · obtain ⟨n, rfl⟩ := hdr
        obtain ⟨lg, it, l, t, ls, is, r⟩ := g.obj b _ e
        have h1 : lg ≠ a := hnb b n lg e ⟨lg, it, l, t, r.hd, .inl rfl⟩
        have h2 : it ≠ a := hnb b n it e ⟨lg, it, l, t, r.hd, .inr rfl⟩
        exact ⟨lg, it, l, t, ls, is, ⟨by rw [upd_ne hb]; exact r.hd, by rw [upd_ne h1]; exact r.hlg, by rw [upd_ne h2]; exact r.hit, r.ne, r.lpos, r.ipos, r.ilen, r.llen, r.l0, r.t0, r.tn⟩⟩
      · exact (g.obj b u e).stay st (fun n z => hdr ⟨n, z⟩) (upd_ne hb)
  · have e' := (gdr d n).mp e
    have h' := (hidE d n b e').mp h
    rw [gup_ne (hnb d n b e' h')]
    exact g.sep d n b e' h'
/-- a new thing that is not tracked (a tuple) -/
theorem HRel.laid {K : Fr0} {H : Hp} {G : Gp} {a : Addr} {ho : HO} (g : HRel K en H G) (ha : H a = none) : HRel K en (L2.upd H a ho) G ∧ Step H G (L2.upd H a ho) G ∧ Stay K H (L2.upd H a ho) := by
  have ne : ∀ b u, H b = some u → b ≠ a := fun b u e z => by rw [z, ha] at e; cases e
  have gne : ∀ b u, G b = some u → b ≠ a := fun b u e => by
    obtain ⟨u, q, _⟩ := (g.obj b u e).kind
    exact ne b _ q
  have hidE : ∀ d n b, G d = some (.drw n) → (Hid (L2.upd H a ho) d b ↔ Hid H d b) := by
    intro d n b e
    unfold Hid
    rw [upd_ne (gne d _ e)]
  have st : Stay K H (L2.upd H a ho) := by
    refine ⟨fun p xs h => ?_, fun p o xs h => by rw [upd_ne (ne _ _ h)]; exact h⟩
    rcases h with (h | ⟨u, h⟩) | h
    · exact .inl (.inl (by rw [upd_ne (ne _ _ h)]; exact h))
    · exact .inl (.inr ⟨u, by rw [upd_ne (ne _ _ h)]; exact h⟩)
    · exact .inr h
  have stp : Step H G (L2.upd H a ho) G := by
    refine ⟨fun b u e no => ⟨by rw [upd_ne (ne b u e)]; exact e, fun z => no ?_⟩, fun b u e => ⟨u, by rw [upd_ne (ne b u e)]; exact e⟩⟩
    rcases z with z | ⟨d, n, e', h⟩
    · exact .inl z
    · exact .inr ⟨d, n, e', (hidE d n b e').mp h⟩
  refine ⟨⟨fun b u e => ?_, fun d n b e h => g.sep d n b e ((hidE d n b e).mp h), g.one, fun e he => (g.hist e he).trans stp⟩, stp, st⟩
  · by_cases hdr : ∃ n, u = .drw n
    · obtain ⟨n, rfl⟩ := hdr
      obtain ⟨lg, it, l, t, ls, is, r⟩ := g.obj b _ e
      exact ⟨lg, it, l, t, ls, is, ⟨by rw [upd_ne (gne b _ e)]; exact r.hd, by rw [upd_ne (ne _ _ r.hlg)]; exact r.hlg, by rw [upd_ne (ne _ _ r.hit)]; exact r.hit, r.ne, r.lpos, r.ipos, r.ilen, r.llen, r.l0, r.t0, r.tn⟩⟩
    · exact (g.obj b u e).stay st (fun n z => hdr ⟨n, z⟩) (upd_ne (gne b _ e))
/-- a write at a tracked cell, a new cell: the tuples stay -/
theorem stayL {K : Fr0} {H : Hp} {G : Gp} {a : Addr} {ho : HO} {u : O} (g : HRel K en H G) (e : G a = some u) (hn : ∀ n, u ≠ .drw n) : Stay K H (L2.upd H a ho) := by
  have pne : ∀ p u, H p = some u → kind u = false → p ≠ a := by
    intro p u' e' h1 z
    subst z
    obtain ⟨u2, q, h2⟩ := (g.obj p u e).kind
    rw [e'] at q
    cases q
    rw [h1] at h2
    cases h2
  refine ⟨fun p xs h => ?_, fun p o xs h => by rw [upd_ne (pne _ _ h rfl)]; exact h⟩
  rcases h with (h | ⟨u', h⟩) | h
  · exact .inl (.inl (by rw [upd_ne (pne _ _ h rfl)]; exact h))
  · exact .inl (.inr ⟨u', by rw [upd_ne (pne _ _ h rfl)]; exact h⟩)
  · exact .inr h
/-- less is tracked -/
def Sub (G G' : Gp) : Prop := ∀ a o, G a = some o → G' a = some o
theorem Sub.refl (G : Gp) : Sub G G := fun _ _ h => h
theorem Step.sub {H H' : Hp} {G G' G2 : Gp} (t : Step H G H' G') (s : Sub G2 G') : Step H G H' G2 :=
  ⟨fun a o e n => let ⟨h1, h2⟩ := t.fr a o e n; ⟨h1, fun z => h2 (z.imp (fun ⟨o, q⟩ => ⟨o, s _ _ q⟩) fun ⟨d, n, q, h⟩ => ⟨d, n, s _ _ q, h⟩)⟩, t.al⟩
theorem HRel.sub {K : Fr0} {H : Hp} {G G' : Gp} (g : HRel K en H G') (s : Sub G G') : HRel K en H G := by
  refine ⟨fun a o e => g.obj a o (s a o e), fun d n b e h => ?_, fun d d' n n' e e' => g.one d d' n n' (s _ _ e) (s _ _ e'), fun e he => (g.hist e he).sub s⟩
  cases q : G b with
  | none => rfl
  | some o =>
    have := g.sep d n b (s _ _ e) h
    rw [s _ _ q] at this; cases this
theorem HRel.fresh {K : Fr0} {H : Hp} {G : Gp} {a : Addr} (g : HRel K en H G) (h : H a = none) : G a = none := by
  cases q : G a with
  | none => rfl
  | some o =>
    obtain ⟨u, e, _⟩ := (g.obj a o q).kind
    rw [h] at e
    cases e

/-- other entries -/
theorem HRel.nil {K : Fr0} {en : En} {H : Hp} {G : Gp} (g : HRel K en H G) : HRel K [] H G := ⟨g.obj, g.sep, g.one, fun e he => by cases he⟩
theorem HRel.back {K : Fr0} {en : En} {H H' : Hp} {G G' : Gp} (g : HRel K en H G) (g' : HRel K [] H' G') (s : Step H G H' G') : HRel K en H' G' := ⟨g'.obj, g'.sep, g'.one, fun e he => (g.hist e he).trans s⟩
theorem HRel.enter {K : Fr0} {en : En} {H : Hp} {G : Gp} (g : HRel K en H G) : HRel K [(H, G)] H G := ⟨g.obj, g.sep, g.one, fun e he => by rw [List.mem_singleton.mp he]; exact Step.refl H G⟩

/-! ### slots -/
abbrev S2 := List (Option T)
structure SRel (K : Fr0) (H : Hp) (σ : L2.St) (S : S2) : Prop where
  len : σ.length = S.length
  at_ : ∀ (i : Nat) (t : T), S[i]? = some (some t) → ∃ v, σ[i]? = some (some v) ∧ Rel K H v t
theorem SRel.stay {K : Fr0} {H H' : Hp} {σ : L2.St} {S : S2} (r : SRel K H σ S) (st : Stay K H H') : SRel K H' σ S :=
  ⟨r.len, fun i t e => let ⟨v, h, q⟩ := r.at_ i t e; ⟨v, h, q.stay st⟩⟩
theorem SRel.set {K : Fr0} {H : Hp} {σ : L2.St} {S : S2} {v : V} {t : T} (r : SRel K H σ S) (h : Rel K H v t) (i : Nat) : SRel K H (σ.set i (some v)) (S.set i (some t)) := by
  refine ⟨by simp [r.len], fun j u e => ?_⟩
  by_cases hj : i = j
  · subst hj
    by_cases hl : i < S.length
    · rw [List.getElem?_set_self hl] at e
      cases e
      exact ⟨v, List.getElem?_set_self (by rw [r.len]; exact hl), h⟩
    · rw [List.getElem?_eq_none (by simpa using hl)] at e
      cases e
  · rw [List.getElem?_set_ne hj] at e
    rw [List.getElem?_set_ne hj]
    exact r.at_ j u e
def wipe2 (S : S2) : List Nat → S2
  | [] => S
  | v :: vs => (wipe2 S vs).set v none
theorem SRel.wipe {K : Fr0} {H : Hp} {σ : L2.St} {S : S2} (r : SRel K H σ S) : ∀ vs, SRel K H (L2.wipe σ vs) (wipe2 S vs)
  | [] => r
  | v :: vs => by
    have ih := SRel.wipe r vs
    refine ⟨by unfold L2.wipe wipe2; simp [ih.len], fun j u e => ?_⟩
    unfold wipe2 at e
    unfold L2.wipe
    by_cases hj : v = j
    · subst hj
      by_cases hl : v < (wipe2 S vs).length
      · rw [List.getElem?_set_self hl] at e; cases e
      · rw [List.getElem?_eq_none (by simpa using hl)] at e; cases e
    · rw [List.getElem?_set_ne hj] at e
      rw [List.getElem?_set_ne hj]
      exact ih.at_ j u e
theorem SRel.weak {K : Fr0} {H : Hp} {σ : L2.St} {S S' : S2} (r : SRel K H σ S) (hl : S'.length = S.length) (h : ∀ (i : Nat) (t : T), S'[i]? = some (some t) → S[i]? = some (some t)) : SRel K H σ S' :=
  ⟨r.len.trans hl.symm, fun i t e => r.at_ i t (h i t e)⟩

/-! ### readings over deep values, lowered -/
abbrev QT := T → Gp → Prop
abbrev LE := S2 → Gp → QT → Prop
abbrev LT := S2 → Gp → (Bool → Gp → Prop) → Prop
abbrev LA := S2 → Gp → (List T → Gp → Prop) → Prop
abbrev R2T := T → T → Gp → QT → Prop
abbrev R1T := T → Gp → QT → Prop
abbrev RLT := List T → Gp → QT → Prop
abbrev RMT := T → List T → Gp → QT → Prop
def low (K : Fr0) (en : En) (le : LE) : TE := fun σ H Q => ∃ S G Φ, SRel K H σ S ∧ HRel K en H G ∧ le S G Φ ∧ ∀ t G' v H', Φ t G' → Rel K H' v t → HRel K en H' G' → Step H G H' G' → Q v H'
def lowT (K : Fr0) (en : En) (le : LT) : TT := fun σ H Q => ∃ S G Φ, SRel K H σ S ∧ HRel K en H G ∧ le S G Φ ∧ ∀ b G' H', Φ b G' → HRel K en H' G' → Step H G H' G' → Q b H'
def lowA (K : Fr0) (en : En) (le : LA) : TA := fun σ H Q => ∃ S G Φ, SRel K H σ S ∧ HRel K en H G ∧ le S G Φ ∧ ∀ ts G' vs H', Φ ts G' → RelL K H' vs ts → HRel K en H' G' → Step H G H' G' → Q vs H'
def low2 (K : Fr0) (en : En) (r : R2T) : R2 := fun x y H Q => ∃ t u G Φ, Rel K H x t ∧ Rel K H y u ∧ HRel K en H G ∧ r t u G Φ ∧ ∀ t G' v H', Φ t G' → Rel K H' v t → HRel K en H' G' → Step H G H' G' → Q v H'
def low1 (K : Fr0) (en : En) (r : R1T) : V → Hp → VK → Prop := fun x H Q => ∃ t G Φ, Rel K H x t ∧ HRel K en H G ∧ r t G Φ ∧ ∀ t G' v H', Φ t G' → Rel K H' v t → HRel K en H' G' → Step H G H' G' → Q v H'
def lowC (K : Fr0) (en : En) (r : RLT) : List V → Hp → VK → Prop := fun xs H Q => ∃ ts G Φ, RelL K H xs ts ∧ HRel K en H G ∧ r ts G Φ ∧ ∀ t G' v H', Φ t G' → Rel K H' v t → HRel K en H' G' → Step H G H' G' → Q v H'
def lowM (K : Fr0) (en : En) (r : RMT) : V → List V → Hp → VK → Prop := fun x xs H Q => ∃ t ts G Φ, Rel K H x t ∧ RelL K H xs ts ∧ HRel K en H G ∧ r t ts G Φ ∧ ∀ t G' v H', Φ t G' → Rel K H' v t → HRel K en H' G' → Step H G H' G' → Q v H'
structure LEnds where
  nx : S2 → Gp → Prop
  rt : QT
  bk : S2 → Gp → Prop := fun _ _ => False
  ct : S2 → Gp → Prop := fun _ _ => False
abbrev LS := LEnds → S2 → Gp → Prop
structure EndsOk (K : Fr0) (en : En) (H : Hp) (G : Gp) (L : LEnds) (D : Ends) : Prop where
  nx : ∀ S' G' σ' H', L.nx S' G' → SRel K H' σ' S' → HRel K en H' G' → Step H G H' G' → D.nx σ' H'
  rt : ∀ t G' v H', L.rt t G' → Rel K H' v t → HRel K en H' G' → Step H G H' G' → D.rt v H'
  bk : ∀ S' G' σ' H', L.bk S' G' → SRel K H' σ' S' → HRel K en H' G' → Step H G H' G' → D.bk σ' H'
  ct : ∀ S' G' σ' H', L.ct S' G' → SRel K H' σ' S' → HRel K en H' G' → Step H G H' G' → D.ct σ' H'
theorem EndsOk.step {K : Fr0} {H H1 : Hp} {G G1 : Gp} {L : LEnds} {D : Ends} (e : EndsOk K en H G L D) (s : Step H G H1 G1) : EndsOk K en H1 G1 L D :=
  ⟨fun S G σ H a b c d => e.nx S G σ H a b c (s.trans d), fun S G σ H a b c d => e.rt S G σ H a b c (s.trans d), fun S G σ H a b c d => e.bk S G σ H a b c (s.trans d), fun S G σ H a b c d => e.ct S G σ H a b c (s.trans d)⟩
def lowS (K : Fr0) (en : En) (ls : LS) : TS := fun D σ H => ∃ S G L, SRel K H σ S ∧ HRel K en H G ∧ ls L S G ∧ EndsOk K en H G L D

/-! ### judgements -/
def E (en : En) (X : Cx) (e : Expr) (l : LE) : Prop := PE X e (low X.K en l)
def Et (en : En) (X : Cx) (e : Expr) (l : LT) : Prop := PT X e (lowT X.K en l)
def Ew (en : En) (X : Cx) (e : Expr) (l : LT) : Prop := PW X e (lowT X.K en l)
def Ea (en : En) (X : Cx) (es : List Expr) (l : LA) : Prop := PA X es (lowA X.K en l)
def Es (en : En) (X : Cx) (s : Stmt) (l : LS) : Prop := PS X s (lowS X.K en l)
def Ess (en : En) (X : Cx) (s : List Stmt) (l : LS) : Prop := PSs X s (lowS X.K en l)
section
variable {X : Cx} {e : Expr} {es : List Expr} {s : Stmt} {ss : List Stmt}
theorem PE.weak {t t' : TE} (h : PE X e t) (w : ∀ σ H Q, t' σ H Q → t σ H Q) : PE X e t' := ⟨fun pins s σ H Q I q => h.run pins s σ H Q I (w σ H Q q)⟩
theorem PT.weak {t t' : TT} (h : PT X e t) (w : ∀ σ H Q, t' σ H Q → t σ H Q) : PT X e t' := ⟨fun pins s σ H Q I q => h.run pins s σ H Q I (w σ H Q q)⟩
theorem PW.weak {t t' : TT} (h : PW X e t) (w : ∀ σ H Q, t' σ H Q → t σ H Q) : PW X e t' := ⟨fun wh pins s σ H Q I q => h.run wh pins s σ H Q I (w σ H Q q)⟩
theorem PA.weak {t t' : TA} (h : PA X es t) (w : ∀ σ H Q, t' σ H Q → t σ H Q) : PA X es t' := ⟨fun pos pins s σ H Q I q => h.run pos pins s σ H Q I (w σ H Q q)⟩
theorem PS.weak {t t' : TS} (h : PS X s t) (w : ∀ D σ H, t' D σ H → t D σ H) : PS X s t' := ⟨fun pins s σ H D I q => h.run pins s σ H D I (w D σ H q)⟩
theorem PSs.weak {t t' : TS} (h : PSs X ss t) (w : ∀ D σ H, t' D σ H → t D σ H) : PSs X ss t' := ⟨fun pins s σ H D I q => h.run pins s σ H D I (w D σ H q)⟩
end
end Dv
namespace Dv
open PySem L2

/-! ### equality of deep values -/
mutual
def T.decEq : (a b : T) → Decidable (a = b)
  | .non, .non => .isTrue rfl
  | .bl a, .bl b => if h : a = b then .isTrue (h ▸ rfl) else .isFalse fun e => h (T.bl.inj e)
  | .int a, .int b => if h : a = b then .isTrue (h ▸ rfl) else .isFalse fun e => h (T.int.inj e)
  | .str a, .str b => if h : a = b then .isTrue (h ▸ rfl) else .isFalse fun e => h (T.str.inj e)
  | .tup a, .tup b => match T.decEqL a b with
    | .isTrue h => .isTrue (h ▸ rfl)
    | .isFalse h => .isFalse fun e => h (T.tup.inj e)
  | .ref a, .ref b => if h : a = b then .isTrue (h ▸ rfl) else .isFalse fun e => h (T.ref.inj e)
  | .ty a, .ty b => if h : a = b then .isTrue (h ▸ rfl) else .isFalse fun e => h (T.ty.inj e)
  | .ptup a, .ptup b => match T.decEqL a b with
    | .isTrue h => .isTrue (h ▸ rfl)
    | .isFalse h => .isFalse fun e => h (T.ptup.inj e)
  | .non, .ptup _ | .bl _, .ptup _ | .int _, .ptup _ | .str _, .ptup _ | .tup _, .ptup _ | .ref _, .ptup _ | .ty _, .ptup _ => .isFalse fun e => nomatch e
  | .ptup _, .non | .ptup _, .bl _ | .ptup _, .int _ | .ptup _, .str _ | .ptup _, .tup _ | .ptup _, .ref _ | .ptup _, .ty _ => .isFalse fun e => nomatch e
  | .non, .bl _ | .non, .int _ | .non, .str _ | .non, .tup _ | .non, .ref _ | .non, .ty _ => .isFalse fun e => nomatch e
  | .bl _, .non | .bl _, .int _ | .bl _, .str _ | .bl _, .tup _ | .bl _, .ref _ | .bl _, .ty _ => .isFalse fun e => nomatch e
  | .int _, .non | .int _, .bl _ | .int _, .str _ | .int _, .tup _ | .int _, .ref _ | .int _, .ty _ => .isFalse fun e => nomatch e
  | .str _, .non | .str _, .bl _ | .str _, .int _ | .str _, .tup _ | .str _, .ref _ | .str _, .ty _ => .isFalse fun e => nomatch e
  | .tup _, .non | .tup _, .bl _ | .tup _, .int _ | .tup _, .str _ | .tup _, .ref _ | .tup _, .ty _ => .isFalse fun e => nomatch e
  | .ref _, .non | .ref _, .bl _ | .ref _, .int _ | .ref _, .str _ | .ref _, .tup _ | .ref _, .ty _ => .isFalse fun e => nomatch e
  | .ty _, .non | .ty _, .bl _ | .ty _, .int _ | .ty _, .str _ | .ty _, .tup _ | .ty _, .ref _ => .isFalse fun e => nomatch e
def T.decEqL : (a b : List T) → Decidable (a = b)
  | [], [] => .isTrue rfl
  | a :: as, b :: bs => match T.decEq a b, T.decEqL as bs with
    | .isTrue h, .isTrue h' => .isTrue (h ▸ h' ▸ rfl)
    | .isFalse h, _ => .isFalse fun e => h (List.cons.inj e).1
    | _, .isFalse h => .isFalse fun e => h (List.cons.inj e).2
  | [], _ :: _ => .isFalse fun e => nomatch e
  | _ :: _, [] => .isFalse fun e => nomatch e
end
instance : DecidableEq T := T.decEq

/-! ### data read through lists -/
mutual
inductive Dat (G : Gp) : T → PyData → Prop
  | non : Dat G .non .none
  | bl (b : Bool) : Dat G (.bl b) (.bool b)
  | int (i : Int) : Dat G (.int i) (.int i)
  | str (x : Str) : Dat G (.str x) (.str x)
  | tup {ts : List T} {ds : List PyData} : DatL G ts ds → Dat G (.tup ts) (.tuple ds)
  | lst {a : Addr} {ts : List T} {ds : List PyData} : G a = some (.lst ts) → DatL G ts ds → Dat G (.ref a) (.list ds)
inductive DatL (G : Gp) : List T → List PyData → Prop
  | nil : DatL G [] []
  | cons {t : T} {d : PyData} {ts : List T} {ds : List PyData} : Dat G t d → DatL G ts ds → DatL G (t :: ts) (d :: ds)
end
mutual
theorem Dat.dp {K : Fr0} {H : Hp} {G : Gp} (g : HRel K en H G) : ∀ {d : PyData} {t : T} {v : V}, Dat G t d → Rel K H v t → Dp K H v d
  | .none, _, _, .non, .non => .non
  | .bool _, _, _, .bl _, .bl _ => .bl _
  | .int _, _, _, .int _, .int _ => .int _
  | .str _, _, _, .str _, .str _ => .str _
  | .tuple _, _, _, .tup h, .tup hs r => .tup hs (DatL.dp g h r)
  | .list ds, _, _, .lst hg h, r0 => by
    cases r0
    obtain ⟨vs, e, r⟩ := g.obj _ _ hg
    exact .lst (SqL.of e) (DatL.dp g h r)
theorem DatL.dp {K : Fr0} {H : Hp} {G : Gp} (g : HRel K en H G) : ∀ {ds : List PyData} {ts : List T} {vs : List V}, DatL G ts ds → RelL K H vs ts → DpAll K H vs ds
  | [], _, _, .nil, .nil => .nil
  | _ :: _, _, _, .cons h hs, .cons r rs => .cons (Dat.dp g h r) (DatL.dp g hs rs)
end

section
variable {X : Cx} {a b c : Expr} {es : List Expr} {la lb lc : LE} {pos : Pos}
/-! ### names, constants -/
def sl : S2 → Nat → Option T
  | [], _ => none
  | x :: _, 0 => x
  | _ :: r, i + 1 => sl r i
theorem sl_at : ∀ {S : S2} {i : Nat} {t : T}, sl S i = some t → S[i]? = some (some t)
  | [], _, _, h => by simp [sl] at h
  | x :: _, 0, t, h => by
    have h : x = some t := h
    subst h
    rfl
  | _ :: r, i + 1, t, h => by
    have h : sl r i = some t := h
    simpa using sl_at h
def lVar (i : Nat) : LE := fun S G Φ => match sl S i with
  | some t => Φ t G
  | none => False
def lC (t : T) : LE := fun _ G Φ => Φ t G
theorem e_var (i : Nat) {x : Str} {pos : Pos} (hN : X.N[i]? = some x := by rfl) (hv : Vis X.env.scope x := by first | exact Or.inl rfl | exact Or.inr (Or.inl rfl) | exact Or.inr (Or.inr rfl)) (hd : (x == ("__debug__" : Str)) = false := by decide)
    (hcd : (x == ("__classdict__" : Str)) = false := by decide) : E en X (.Name x pos) (lVar i) := by
  refine PE.weak (pe_var hN hv hd hcd) fun σ H Q ⟨S, G, Φ, s, g, q, k⟩ => ?_
  unfold lVar at q
  split at q
  · rename_i t e
    obtain ⟨v, h1, h2⟩ := s.at_ i t (sl_at e)
    exact ⟨v, h1, k t G v H q h2 g (Step.refl H G)⟩
  · exact q.elim
theorem e_const {v : V} {t : T} {e : Expr} (h : PE X e (tC v)) (r : ∀ H, Rel X.K H v t) : E en X e (lC t) :=
  PE.weak h fun σ H Q ⟨S, G, Φ, s, g, q, k⟩ => k t G v H q (r H) g (Step.refl H G)
theorem e_int {i : Int} {j : Nat} : E en X (.Constant (.int i) j pos) (lC (.int i)) := e_const pe_int fun _ => .int _
theorem e_bl {i : Bool} {j : Nat} : E en X (.Constant (.bool i) j pos) (lC (.bl i)) := e_const pe_bl fun _ => .bl _
theorem e_non {j : Nat} : E en X (.Constant .none j pos) (lC .non) := e_const pe_non fun _ => .non
theorem e_str {i : Str} {j : Nat} : E en X (.Constant (.str i) j pos) (lC (.str i)) := e_const pe_str fun _ => .str _

/-! ### arguments, displays -/
def lNil : LA := fun _ G Φ => Φ [] G
def lCons (la : LE) (lr : LA) : LA := fun S G Φ => la S G fun t G1 => lr S G1 fun ts G2 => Φ (t :: ts) G2
theorem ea_nil : Ea en X [] lNil := PA.weak pa_nil fun σ H Q ⟨S, G, Φ, s, g, q, k⟩ => k [] G [] H q .nil g (Step.refl H G)
theorem ea_cons {lr : LA} (h : E en X a la) (hr : Ea en X es lr) (hs : starEach (a :: es) X.env = (false, eval a X.env) :: starEach es X.env := by rfl) : Ea en X (a :: es) (lCons la lr) := by
  refine PA.weak (pa_cons h hr hs) fun σ H Q ⟨S, G, Φ, s, g, q, k⟩ => ?_
  refine ⟨S, G, _, s, g, q, fun t G1 v H1 q1 r1 g1 s1 => ?_⟩
  refine ⟨S, G1, _, s.stay (s1.stay g), g1, q1, fun ts G2 vs H2 q2 r2 g2 s2 => ?_⟩
  exact k (t :: ts) G2 (v :: vs) H2 q2 (.cons (r1.stay (s2.stay g1)) r2) g2 (s1.trans s2)
def lTup (l : LA) : LE := fun S G Φ => l S G fun ts G1 => ts.length ≤ sizeLine ∧ Φ (.tup ts) G1
def newL (ts : List T) : Gp → QT → Prop := fun G Φ => ts.length ≤ sizeLine ∧ ∀ p, G p = none → Φ (.ref p) (gup G p (.lst ts))
def lLst (l : LA) : LE := fun S G Φ => l S G fun ts G1 => newL ts G1 Φ
/-- a new tuple is laid: its value -/
theorem tup_laid {K : Fr0} {H : Hp} {G : Gp} {p : Addr} {vs : List V} {ts : List T} (g : HRel K en H G) (hp : H p = none) (r : RelL K H vs ts) : Rel K (L2.upd H p (.tup vs)) (.ref p) (.tup ts) ∧ HRel K en (L2.upd H p (.tup vs)) G ∧ Step H G (L2.upd H p (.tup vs)) G := by
  obtain ⟨g1, s1, st⟩ := g.laid (ho := .tup vs) hp
  exact ⟨.tup (SqT.of upd_same) (r.stay st), g1, s1⟩
theorem lst_laid {K : Fr0} {H : Hp} {G : Gp} {p : Addr} {vs : List V} {ts : List T} (g : HRel K en H G) (hp : H p = none) (r : RelL K H vs ts) : HRel K en (L2.upd H p (.lst vs)) (gup G p (.lst ts)) ∧ Step H G (L2.upd H p (.lst vs)) (gup G p (.lst ts)) := by
  have hp' : ∀ ho, Stay K H (L2.upd H p ho) := fun ho => (g.laid (ho := ho) hp).2.2
  obtain ⟨g1, s1, st⟩ := g.upd (a := p) (ho := .lst vs) (o := .lst ts) (.inl hp) (fun n z => by cases z) ⟨vs, upd_same, r.stay (hp' _)⟩
  exact ⟨g1, s1⟩
theorem e_tup {l : LA} {k : Nat} (h : Ea en X es l) : E en X (.Tuple es k pos) (lTup l) := by
  refine PE.weak (pe_tup h) fun σ H Q ⟨S, G, Φ, s, g, q, k⟩ => ?_
  refine ⟨S, G, _, s, g, q, fun ts G1 vs H1 q1 r1 g1 s1 => ⟨by rw [r1.length]; exact q1.1, fun p hp => ?_⟩⟩
  obtain ⟨r2, g2, s2⟩ := tup_laid g1 hp r1
  exact k _ _ _ _ q1.2 r2 g2 (s1.trans s2)
theorem e_lst {l : LA} (h : Ea en X es l) : E en X (.List es pos) (lLst l) := by
  refine PE.weak (pe_lst h) fun σ H Q ⟨S, G, Φ, s, g, q, k⟩ => ?_
  refine ⟨S, G, _, s, g, q, fun ts G1 vs H1 q1 r1 g1 s1 => ⟨by rw [r1.length]; exact q1.1, fun p hp => ?_⟩⟩
  obtain ⟨g2, s2⟩ := lst_laid g1 hp r1
  exact k _ _ _ _ (q1.2 p (g1.fresh hp)) (.ref p) g2 (s1.trans s2)

/-! ### operators -/
def lOp (r : R2T) (la lb : LE) : LE := fun S G Φ => la S G fun t G1 => lb S G1 fun u G2 => r t u G2 Φ
def lUn (r : R1T) (la : LE) : LE := fun S G Φ => la S G fun t G1 => r t G1 Φ
def lCB (r : RLT) (l : LA) : LE := fun S G Φ => l S G fun ts G1 => r ts G1 Φ
theorem OpR.weak {f : Value → Value → Sem Value} {r r' : R2} (h : OpR X f r) (w : ∀ x y H Q, r' x y H Q → r x y H Q) : OpR X f r' := fun pins s σ H x y v u Q I rx ry q => h pins s σ H x y v u Q I rx ry (w x y H Q q)
theorem OpR.or {f : Value → Value → Sem Value} {r r' : R2} (h : OpR X f r) (h' : OpR X f r') : OpR X f (fun x y H Q => r x y H Q ∨ r' x y H Q) := fun pins s σ H x y v u Q I rx ry q => q.elim (h pins s σ H x y v u Q I rx ry) (h' pins s σ H x y v u Q I rx ry)
theorem CallR.weak {f : Value} {r r' : List V → Hp → VK → Prop} (h : CallR X f r) (w : ∀ xs H Q, r' xs H Q → r xs H Q) : CallR X f r' := fun pins s σ H xs us Q I rx q => h pins s σ H xs us Q I rx (w xs H Q q)
theorem CallR.or {f : Value} {r r' : List V → Hp → VK → Prop} (h : CallR X f r) (h' : CallR X f r') : CallR X f (fun xs H Q => r xs H Q ∨ r' xs H Q) := fun pins s σ H xs us Q I rx q => q.elim (h pins s σ H xs us Q I rx) (h' pins s σ H xs us Q I rx)
theorem low2_run {K : Fr0} {r : R2T} {σ : L2.St} {H : Hp} {Q : VK} (h : low K en (lOp r la lb) σ H Q) : tOp (low2 K en r) (low K en la) (low K en lb) σ H Q := by
  obtain ⟨S, G, Φ, s, g, q, k⟩ := h
  refine ⟨S, G, _, s, g, q, fun t G1 v H1 q1 r1 g1 s1 => ?_⟩
  refine ⟨S, G1, _, s.stay (s1.stay g), g1, q1, fun u G2 w H2 q2 r2 g2 s2 => ?_⟩
  exact ⟨t, u, G2, Φ, r1.stay (s2.stay g1), r2, g2, q2, fun t' G' v' H' a b c d => k t' G' v' H' a b c ((s1.trans s2).trans d)⟩
theorem e_bin {op : Operator} {r : R2T} (ho : OpR X (binaryOp op) (low2 X.K en r)) (ha : E en X a la) (hb : E en X b lb) : E en X (.BinOp a op b pos) (lOp r la lb) :=
  PE.weak (pe_op ho ha hb) fun σ H Q h => low2_run h
theorem e_cmp {op : CmpOp} {r : R2T} (ho : OpR X (compareOp op) (low2 X.K en r)) (ha : E en X a la) (hb : E en X b lb) (hm : behindInMarks op b = false := by first | exact nomark _ | rfl) : E en X (.Compare a [op] [b] pos) (lOp r la lb) :=
  PE.weak (pe_cmpR ho ha hb hm) fun σ H Q h => low2_run h
/-- an expression that is a bool, as a test -/
def lB (l : LE) : LT := fun S G Φ => l S G fun t G1 => match t with
  | .bl b => Φ b G1
  | _ => False
theorem low_B {K : Fr0} {te : TE} {l : LE} (h : ∀ σ H Q, low K en l σ H Q → te σ H Q) : ∀ σ H Q, lowT K en (lB l) σ H Q → tTest te σ H Q := fun σ H Q ⟨S, G, Φ, s, g, q, k⟩ => by
  refine h σ H _ ⟨S, G, _, s, g, q, fun t G1 v H1 q1 r1 g1 s1 => ?_⟩
  cases r1 with
  | bl b => exact ⟨b, rfl, k b G1 H1 q1 g1 s1⟩
  | _ => exact q1.elim
theorem et_cmp {op : CmpOp} {r : R2T} (ho : OpR X (compareOp op) (low2 X.K en r)) (ha : E en X a la) (hb : E en X b lb) (hm : behindInMarks op b = false := by first | exact nomark _ | rfl) : Et en X (.Compare a [op] [b] pos) (lB (lOp r la lb)) :=
  PT.weak (pt_cmpR ho ha hb hm) (low_B fun σ H Q h => low2_run h)
theorem et_val (h : E en X a la) (he : ∀ whole, isTrue a X.env whole = (do let v ← whole; standAt a.pos; holding [v] (truthy v)) := by intro _; rfl) : Et en X a (lB la) :=
  PT.weak (pt_val h he) (low_B fun σ H Q h => h)
def lAnd (t u : LT) : LT := fun S G Φ => t S G fun c G1 => if c = true then u S G1 Φ else Φ false G1
def lOr (t u : LT) : LT := fun S G Φ => t S G fun c G1 => if c = true then Φ true G1 else u S G1 Φ
def lNot (t : LT) : LT := fun S G Φ => t S G fun c G1 => Φ (!c) G1
variable {tl ul : LT} {rest : List Expr}
theorem ew_and1 (h : Et en X a tl) : Ew en X (.BoolOp .And [a] pos) tl := pw_and1 h
theorem ew_or1 (h : Et en X a tl) : Ew en X (.BoolOp .Or [a] pos) tl := pw_or1 h
theorem ew_and (h : Et en X a tl) (hb : Ew en X (.BoolOp .And (b :: rest) pos) ul) : Ew en X (.BoolOp .And (a :: b :: rest) pos) (lAnd tl ul) := by
  refine PW.weak (pw_and h hb) fun σ H Q ⟨S, G, Φ, s, g, q, k⟩ => ?_
  refine ⟨S, G, _, s, g, q, fun c G1 H1 q1 g1 s1 => ?_⟩
  cases c with
  | true =>
    rw [if_pos rfl] at q1 ⊢
    exact ⟨S, G1, Φ, s.stay (s1.stay g), g1, q1, fun c G2 H2 q2 g2 s2 => k c G2 H2 q2 g2 (s1.trans s2)⟩
  | false =>
    rw [if_neg Bool.false_ne_true] at q1 ⊢
    exact k false G1 H1 q1 g1 s1
theorem ew_or (h : Et en X a tl) (hb : Ew en X (.BoolOp .Or (b :: rest) pos) ul) : Ew en X (.BoolOp .Or (a :: b :: rest) pos) (lOr tl ul) := by
  refine PW.weak (pw_or h hb) fun σ H Q ⟨S, G, Φ, s, g, q, k⟩ => ?_
  refine ⟨S, G, _, s, g, q, fun c G1 H1 q1 g1 s1 => ?_⟩
  cases c with
  | true =>
    rw [if_pos rfl] at q1 ⊢
    exact k true G1 H1 q1 g1 s1
  | false =>
    rw [if_neg Bool.false_ne_true] at q1 ⊢
    exact ⟨S, G1, Φ, s.stay (s1.stay g), g1, q1, fun c G2 H2 q2 g2 s2 => k c G2 H2 q2 g2 (s1.trans s2)⟩
theorem et_w (h : Ew en X a tl) : Et en X a tl := h.pt
theorem et_not (h : Et en X a tl) : Et en X (.UnaryOp .Not a pos) (lNot tl) :=
  PT.weak (pt_not h) fun σ H Q ⟨S, G, Φ, s, g, q, k⟩ => ⟨S, G, _, s, g, q, fun c G1 H1 q1 g1 s1 => k (!c) G1 H1 q1 g1 s1⟩
/-! .. as values -/
def lAndV (la lb : LE) : LE := fun S G Φ => la S G fun t G1 => match t with
  | .bl c => if c = true then lb S G1 Φ else Φ (.bl false) G1
  | _ => False
def lOrV (la lb : LE) : LE := fun S G Φ => la S G fun t G1 => match t with
  | .bl c => if c = true then Φ (.bl true) G1 else lb S G1 Φ
  | _ => False
def lNotV (la : LE) : LE := fun S G Φ => la S G fun t G1 => match t with
  | .bl c => Φ (.bl (!c)) G1
  | _ => False
theorem e_one {op : BoolOp} (h : E en X a la) : E en X (.BoolOp op [a] pos) la := pe_one h
theorem e_and (h : E en X a la) (hb : E en X (.BoolOp .And (b :: rest) pos) lb) : E en X (.BoolOp .And (a :: b :: rest) pos) (lAndV la lb) := by
  refine PE.weak (pe_and h hb) fun σ H Q ⟨S, G, Φ, s, g, q, k⟩ => ?_
  refine ⟨S, G, _, s, g, q, fun t G1 v H1 q1 r1 g1 s1 => ?_⟩
  cases r1 with
  | bl c =>
    refine ⟨c, rfl, ?_⟩
    cases c with
    | true => exact ⟨S, G1, Φ, s.stay (s1.stay g), g1, q1, fun t G2 v H2 q2 r2 g2 s2 => k t G2 v H2 q2 r2 g2 (s1.trans s2)⟩
    | false => exact k (.bl false) G1 (.bl false) H1 q1 (.bl _) g1 s1
  | _ => exact q1.elim
theorem e_or (h : E en X a la) (hb : E en X (.BoolOp .Or (b :: rest) pos) lb) : E en X (.BoolOp .Or (a :: b :: rest) pos) (lOrV la lb) := by
  refine PE.weak (pe_or h hb) fun σ H Q ⟨S, G, Φ, s, g, q, k⟩ => ?_
  refine ⟨S, G, _, s, g, q, fun t G1 v H1 q1 r1 g1 s1 => ?_⟩
  cases r1 with
  | bl c =>
    refine ⟨c, rfl, ?_⟩
    cases c with
    | false => exact ⟨S, G1, Φ, s.stay (s1.stay g), g1, q1, fun t G2 v H2 q2 r2 g2 s2 => k t G2 v H2 q2 r2 g2 (s1.trans s2)⟩
    | true => exact k (.bl true) G1 (.bl true) H1 q1 (.bl _) g1 s1
  | _ => exact q1.elim
theorem e_not (h : E en X a la) : E en X (.UnaryOp .Not a pos) (lNotV la) := by
  refine PE.weak (pe_not h) fun σ H Q ⟨S, G, Φ, s, g, q, k⟩ => ?_
  refine ⟨S, G, _, s, g, q, fun t G1 v H1 q1 r1 g1 s1 => ?_⟩
  cases r1 with
  | bl c => exact ⟨c, rfl, k _ _ _ _ q1 (.bl _) g1 s1⟩
  | _ => exact q1.elim
def lIf (t : LT) (la lb : LE) : LE := fun S G Φ => t S G fun c G1 => if c = true then la S G1 Φ else lb S G1 Φ
theorem e_if (h : Et en X c tl) (ha : E en X a la) (hb : E en X b lb) : E en X (.IfExp c a b pos) (lIf tl la lb) := by
  refine PE.weak (pe_ifExp h ha hb) fun σ H Q ⟨S, G, Φ, s, g, q, k⟩ => ?_
  refine ⟨S, G, _, s, g, q, fun d G1 H1 q1 g1 s1 => ?_⟩
  cases d with
  | true =>
    rw [if_pos rfl] at q1 ⊢
    exact ⟨S, G1, Φ, s.stay (s1.stay g), g1, q1, fun t G2 v H2 q2 r2 g2 s2 => k t G2 v H2 q2 r2 g2 (s1.trans s2)⟩
  | false =>
    rw [if_neg Bool.false_ne_true] at q1 ⊢
    exact ⟨S, G1, Φ, s.stay (s1.stay g), g1, q1, fun t G2 v H2 q2 r2 g2 s2 => k t G2 v H2 q2 r2 g2 (s1.trans s2)⟩
/-! chains a < b < c -/
def lChain (r r' : R2T) (la lb lc : LE) : LE := fun S G Φ => la S G fun t G1 => lb S G1 fun u G2 => r t u G2 fun z G3 => match z with
  | .bl true => lc S G3 fun w G4 => r' u w G4 Φ
  | .bl false => Φ (.bl false) G3
  | _ => False
theorem low_chain {K : Fr0} {r r' : R2T} : ∀ σ H Q, low K en (lChain r r' la lb lc) σ H Q → tChain (low2 K en r) (low2 K en r') (low K en la) (low K en lb) (low K en lc) σ H Q := by
  intro σ H Q ⟨S, G, Φ, s, g, q, k⟩
  refine ⟨S, G, _, s, g, q, fun t G1 v H1 q1 r1 g1 s1 => ?_⟩
  refine ⟨S, G1, _, s.stay (s1.stay g), g1, q1, fun u G2 w H2 q2 r2 g2 s2 => ?_⟩
  refine ⟨t, u, G2, _, r1.stay (s2.stay g1), r2, g2, q2, fun z G3 x H3 q3 r3 g3 s3 => ?_⟩
  cases r3 with
  | bl d =>
    refine ⟨d, rfl, ?_⟩
    cases d with
    | true =>
      have s12 := (s1.trans s2).trans s3
      refine ⟨S, G3, _, s.stay (s12.stay g), g3, q3, fun w' G4 y H4 q4 r4 g4 s4 => ?_⟩
      exact ⟨u, w', G4, Φ, (r2.stay (s3.stay g2)).stay (s4.stay g3), r4, g4, q4, fun t' G' v' H' a b c d => k t' G' v' H' a b c ((s12.trans s4).trans d)⟩
    | false => exact k _ _ _ _ q3 (.bl false) g3 ((s1.trans s2).trans s3)
  | _ => exact q3.elim
theorem e_chain {op op' : CmpOp} {r r' : R2T} (ho : OpR X (compareOp op) (low2 X.K en r)) (ho' : OpR X (compareOp op') (low2 X.K en r')) (ha : E en X a la) (hb : E en X b lb) (hc : E en X c lc)
    (hm : lastMarks [op, op'] [b, c] = false := by with_unfolding_all rfl) : E en X (.Compare a [op, op'] [b, c] pos) (lChain r r' la lb lc) := PE.weak (pe_chain ho ho' ha hb hc hm) low_chain
theorem et_chain {op op' : CmpOp} {r r' : R2T} (ho : OpR X (compareOp op) (low2 X.K en r)) (ho' : OpR X (compareOp op') (low2 X.K en r')) (ha : E en X a la) (hb : E en X b lb) (hc : E en X c lc)
    (hm : lastMarks [op, op'] [b, c] = false := by with_unfolding_all rfl) : Et en X (.Compare a [op, op'] [b, c] pos) (lB (lChain r r' la lb lc)) := PT.weak (pt_chain ho ho' ha hb hc hm) (low_B low_chain)
end
end Dv
namespace Dv
open PySem L2
section
variable {X : Cx}

/-! ### arithmetic -/
def addT : R2T
  | .int i, .int j, G, Φ => Φ (.int (i + j)) G
  | .str a, .str b, G, Φ => a.length + b.length ≤ sizeLine ∧ Φ (.str (a ++ b)) G
  | .tup xs, .tup ys, G, Φ => xs.length + ys.length ≤ sizeLine ∧ Φ (.tup (xs ++ ys)) G
  | .ref a, .ref b, G, Φ => match G a, G b with
    | some (.lst xs), some (.lst ys) => newL (xs ++ ys) G Φ
    | _, _ => False
  | _, _, _, _ => False
theorem o_add : OpR X (binaryOp .Add) (low2 X.K en addT) := by
  refine OpR.weak (OpR.or op_add (OpR.or op_add_str (OpR.or op_catA op_cat))) fun x y H Q ⟨t, u, G, Φ, rt, ru, g, q, k⟩ => ?_
  cases rt with
  | int i =>
    cases ru with
    | int j => exact .inl ⟨i, j, rfl, rfl, k _ _ _ _ q (.int _) g (Step.refl H G)⟩
    | _ => exact q.elim
  | str a =>
    cases ru with
    | str b => exact .inr (.inl ⟨a, b, rfl, rfl, q.1, k _ _ _ _ q.2 (.str _) g (Step.refl H G)⟩)
    | _ => exact q.elim
  | tup hs rs =>
    cases ru with
    | tup hs2 rs2 =>
      refine .inr (.inr (.inl ⟨_, _, _, _, rfl, rfl, hs, hs2, by rw [rs.length, rs2.length]; exact q.1, fun e => ?_, fun _ e => ?_, fun _ _ p hp => ?_⟩))
      · subst e
        cases rs
        exact k _ _ _ _ q.2 (.tup hs2 rs2) g (Step.refl H G)
      · subst e
        cases rs2
        refine k _ _ _ _ q.2 (.tup hs ?_) g (Step.refl H G)
        rw [List.append_nil]
        exact rs
      · obtain ⟨r2, g2, s2⟩ := tup_laid g hp (rs.app rs2)
        exact k _ _ _ _ q.2 r2 g2 s2
    | _ => exact q.elim
  | ref a =>
    cases ru with
    | ref b =>
      have q : (match G a, G b with | some (.lst xs), some (.lst ys) => newL (xs ++ ys) G Φ | _, _ => False) := q
      split at q
      · rename_i xs ys e1 e2
        obtain ⟨vs, h1, r1⟩ := g.obj _ _ e1
        obtain ⟨ws, h2, r2⟩ := g.obj _ _ e2
        refine .inr (.inr (.inr ⟨_, _, vs, ws, rfl, rfl, h1, h2, ?_, fun p hp => ?_⟩))
        · rw [r1.length, r2.length, ← List.length_append]; exact q.1
        · obtain ⟨g2, s2⟩ := lst_laid g hp (r1.app r2)
          exact k _ _ _ _ (q.2 p (g.fresh hp)) (.ref p) g2 s2
      · exact q.elim
    | _ => exact q.elim
  | _ => exact q.elim
/-- two ints -/
def intT (C : Int → Int → Prop) (f : Int → Int → T) : R2T
  | .int i, .int j, G, Φ => C i j ∧ Φ (f i j) G
  | _, _, _, _ => False
theorem o_int {f : Value → Value → Sem Value} {C : Int → Int → Prop} {h : Int → Int → Int} (r : OpR X f (rI C fun i j => .int (h i j))) : OpR X f (low2 X.K en (intT C fun i j => .int (h i j))) := by
  refine OpR.weak r fun x y H Q ⟨t, u, G, Φ, rt, ru, g, q, k⟩ => ?_
  cases rt with
  | int i =>
    cases ru with
    | int j => exact ⟨i, j, rfl, rfl, q.1, k _ _ _ _ q.2 (.int _) g (Step.refl H G)⟩
    | _ => exact q.elim
  | _ => exact q.elim
theorem o_int0 {f : Value → Value → Sem Value} {h : Int → Int → Int} (r : OpR X f (rI0 fun i j => .int (h i j))) : OpR X f (low2 X.K en (intT (fun _ _ => True) fun i j => .int (h i j))) := by
  refine OpR.weak r fun x y H Q ⟨t, u, G, Φ, rt, ru, g, q, k⟩ => ?_
  cases rt with
  | int i =>
    cases ru with
    | int j => exact ⟨i, j, rfl, rfl, k _ _ _ _ q.2 (.int _) g (Step.refl H G)⟩
    | _ => exact q.elim
  | _ => exact q.elim
theorem o_sub : OpR X (binaryOp .Sub) (low2 X.K en (intT (fun _ _ => True) fun i j => .int (i - j))) := o_int0 op_sub
theorem o_mod : OpR X (binaryOp .Mod) (low2 X.K en (intT (fun _ j => 0 < j) fun i j => .int (i % j))) := o_int op_mod
theorem o_fdiv : OpR X (binaryOp .FloorDiv) (low2 X.K en (intT CDiv fun i j => .int (i / j))) := o_int op_fdiv
theorem o_pow : OpR X (binaryOp .Pow) (low2 X.K en (intT CPow fun i j => .int (i ^ j.toNat))) := o_int op_pow
def mulT : R2T
  | .int i, .int j, G, Φ => CMul i j ∧ Φ (.int (i * j)) G
  | .ref a, .int k, G, Φ => match G a with
    | some (.lst xs) => 0 ≤ k ∧ k ≤ 1000 ∧ newL (List.replicate k.toNat xs).flatten G Φ
    | _ => False
  | _, _, _, _ => False
theorem RelL.rep {K : Fr0} {H : Hp} {vs : List V} {ts : List T} (r : RelL K H vs ts) : ∀ n, RelL K H (List.replicate n vs).flatten (List.replicate n ts).flatten
  | 0 => .nil
  | n + 1 => by
    rw [List.replicate_succ, List.replicate_succ, List.flatten_cons, List.flatten_cons]
    exact r.app (RelL.rep r n)
theorem o_mul : OpR X (binaryOp .Mult) (low2 X.K en mulT) := by
  refine OpR.weak (OpR.or op_mul op_rep) fun x y H Q ⟨t, u, G, Φ, rt, ru, g, q, k⟩ => ?_
  cases rt with
  | int i =>
    cases ru with
    | int j => exact .inl ⟨i, j, rfl, rfl, q.1, k _ _ _ _ q.2 (.int _) g (Step.refl H G)⟩
    | _ => exact q.elim
  | ref a =>
    cases ru with
    | int n =>
      have q : (match G a with | some (.lst xs) => 0 ≤ n ∧ n ≤ 1000 ∧ newL (List.replicate n.toNat xs).flatten G Φ | _ => False) := q
      split at q
      · rename_i xs e1
        obtain ⟨vs, h1, r1⟩ := g.obj _ _ e1
        obtain ⟨q0, q1, q2⟩ := q
        have hl : vs.length * n.toNat ≤ sizeLine := by
          have := q2.1
          rw [List.length_flatten, List.map_replicate, List.sum_replicate_nat] at this
          rw [r1.length, Nat.mul_comm]
          exact this
        refine .inr ⟨a, n, vs, rfl, rfl, h1, by omega, by omega, hl, fun p hp => ?_⟩
        obtain ⟨g2, s2⟩ := lst_laid g hp (r1.rep n.toNat)
        exact k _ _ _ _ (q2.2 p (g.fresh hp)) (.ref p) g2 s2
      · exact q.elim
    | _ => exact q.elim
  | _ => exact q.elim

/-! ### comparisons -/
def scalT : T → T → Bool
  | .non, .non => true | .non, .int _ => true | .int _, .non => true | .non, .bl _ => true | .bl _, .non => true | .non, .str _ => true | .str _, .non => true
  | .int _, .int _ => true | .bl _, .bl _ => true | .str _, .str _ => true
  | .int _, .str _ => true | .str _, .int _ => true | .bl _, .str _ => true | .str _, .bl _ => true
  | _, _ => false
theorem scal_of {K : Fr0} {H : Hp} {x y : V} {t u : T} (rt : Rel K H x t) (ru : Rel K H y u) (h : scalT t u = true) : scal x y = true ∧ decide (x = y) = decide (t = u) := by
  cases rt <;> cases ru <;> first | exact absurd h Bool.false_ne_true | (refine ⟨rfl, ?_⟩; simp)
/-- ==, by data -/
def eqD (neg : Bool) (t u : T) (G : Gp) (Φ : QT) : Prop := ∃ d e, Dat G t d ∧ Dat G u e ∧ SeqAt.shaped d = true ∧ SeqAt.shaped e = true ∧ Φ (.bl (if neg then !PyData.eqv d e else PyData.eqv d e)) G
def eqT : R2T := fun t u G Φ => if scalT t u = true then Φ (.bl (decide (t = u))) G else eqD false t u G Φ
def neT : R2T := fun t u G Φ => if scalT t u = true then Φ (.bl (!decide (t = u))) G else eqD true t u G Φ
theorem o_eq (hu : X.A.units + 64 < cLine) : OpR X (compareOp .Eq) (low2 X.K en eqT) := by
  refine OpR.weak (OpR.or op_eq (op_eqD hu)) fun x y H Q ⟨t, u, G, Φ, rt, ru, g, q, k⟩ => ?_
  unfold eqT at q
  split at q
  · rename_i h
    obtain ⟨h1, h2⟩ := scal_of rt ru h
    exact .inl ⟨h1, by rw [h2]; exact k _ _ _ _ q (.bl _) g (Step.refl H G)⟩
  · obtain ⟨d, e, h1, h2, h3, h4, q⟩ := q
    exact .inr ⟨d, e, h1.dp g rt, h2.dp g ru, h3, h4, k _ _ _ _ q (.bl _) g (Step.refl H G)⟩
theorem o_ne (hu : X.A.units + 64 < cLine) : OpR X (compareOp .NotEq) (low2 X.K en neT) := by
  refine OpR.weak (OpR.or op_ne (op_neD hu)) fun x y H Q ⟨t, u, G, Φ, rt, ru, g, q, k⟩ => ?_
  unfold neT at q
  split at q
  · rename_i h
    obtain ⟨h1, h2⟩ := scal_of rt ru h
    exact .inl ⟨h1, by rw [h2]; exact k _ _ _ _ q (.bl _) g (Step.refl H G)⟩
  · obtain ⟨d, e, h1, h2, h3, h4, q⟩ := q
    exact .inr ⟨d, e, h1.dp g rt, h2.dp g ru, h3, h4, k _ _ _ _ q (.bl _) g (Step.refl H G)⟩
/-- an order of ints and texts -/
def ordT (f : Int → Int → Bool) (h : Str → Str → Bool) : R2T
  | .int i, .int j, G, Φ => Φ (.bl (f i j)) G
  | .str a, .str b, G, Φ => Φ (.bl (h a b)) G
  | _, _, _, _ => False
theorem o_ord {f : Value → Value → Sem Value} {c : Int → Int → Bool} {h : Str → Str → Bool} (r : OpR X f (rI0 fun i j => .bl (c i j))) (r2 : OpR X f (fun x y H Q => ∃ i j, x = .str i ∧ y = .str j ∧ Q (.bl (h i j)) H)) : OpR X f (low2 X.K en (ordT c h)) := by
  refine OpR.weak (OpR.or r r2) fun x y H Q ⟨t, u, G, Φ, rt, ru, g, q, k⟩ => ?_
  cases rt with
  | int i =>
    cases ru with
    | int j => exact .inl ⟨i, j, rfl, rfl, k _ _ _ _ q (.bl _) g (Step.refl H G)⟩
    | _ => exact q.elim
  | str i =>
    cases ru with
    | str j => exact .inr ⟨i, j, rfl, rfl, k _ _ _ _ q (.bl _) g (Step.refl H G)⟩
    | _ => exact q.elim
  | _ => exact q.elim
def sLt (a b : Str) : Bool := decide (a.cps.toList < b.cps.toList)
theorem o_lt : OpR X (compareOp .Lt) (low2 X.K en (ordT (fun i j => decide (i < j)) fun a b => sLt a b)) := o_ord op_lt op_lt_str
theorem o_le : OpR X (compareOp .LtE) (low2 X.K en (ordT (fun i j => decide (i ≤ j)) fun a b => !sLt b a)) := o_ord op_le op_le_str
theorem o_gt : OpR X (compareOp .Gt) (low2 X.K en (ordT (fun i j => decide (j < i)) fun a b => sLt b a)) := o_ord op_gt op_gt_str
theorem o_ge : OpR X (compareOp .GtE) (low2 X.K en (ordT (fun i j => decide (j ≤ i)) fun a b => !sLt a b)) := o_ord op_ge op_ge_str
/-- is None, is True -/
def isT (neg : Bool) : R2T
  | t, .non, G, Φ => Φ (.bl (if neg then !decide (t = .non) else decide (t = .non))) G
  | .bl a, .bl b, G, Φ => Φ (.bl (if neg then !decide (a = b) else decide (a = b))) G
  | _, _, _, _ => False
theorem non_of {K : Fr0} {H : Hp} {x : V} {t : T} (r : Rel K H x t) : decide (x = .non) = decide (t = .non) := by
  cases r <;> simp
theorem o_is : OpR X (compareOp .Is) (low2 X.K en (isT false)) := by
  refine OpR.weak (OpR.or op_isN op_isBl) fun x y H Q ⟨t, u, G, Φ, rt, ru, g, q, k⟩ => ?_
  cases ru with
  | non =>
    have q : Φ (.bl (decide (t = .non))) G := by unfold isT at q; exact q
    exact .inl ⟨rfl, by rw [non_of rt]; exact k _ _ _ _ q (.bl _) g (Step.refl H G)⟩
  | bl b =>
    cases rt with
    | bl a => exact .inr ⟨a, b, rfl, rfl, k _ _ _ _ q (.bl _) g (Step.refl H G)⟩
    | _ => exact q.elim
  | _ => cases rt <;> exact q.elim
theorem o_isnot : OpR X (compareOp .IsNot) (low2 X.K en (isT true)) := by
  refine OpR.weak (OpR.or op_notN op_notBl) fun x y H Q ⟨t, u, G, Φ, rt, ru, g, q, k⟩ => ?_
  cases ru with
  | non =>
    have q : Φ (.bl (!decide (t = .non))) G := by unfold isT at q; exact q
    exact .inl ⟨rfl, by rw [non_of rt]; exact k _ _ _ _ q (.bl _) g (Step.refl H G)⟩
  | bl b =>
    cases rt with
    | bl a => exact .inr ⟨a, b, rfl, rfl, k _ _ _ _ q (.bl _) g (Step.refl H G)⟩
    | _ => exact q.elim
  | _ => cases rt <;> exact q.elim

/-! ### dicts by keys -/
def dlook : List (T × T) → T → Option T
  | [], _ => none
  | (k, v) :: r, t => if k = t then some v else dlook r t
def keyT : T → Option Key
  | .int i => some (.inl i)
  | .str s => some (.inr s)
  | _ => none
theorem keyT_kT {t : T} {k : Key} (h : keyT t = some k) : t = kT k := by
  cases t <;> simp only [keyT, reduceCtorEq, Option.some.injEq] at h <;> subst h <;> rfl
theorem kT_inj {a b : Key} (h : kT a = kT b) : a = b := by
  cases a <;> cases b <;> simp only [kT, T.int.injEq, T.str.injEq, reduceCtorEq] at h <;> rw [h]
theorem Rel.key {K : Fr0} {H : Hp} {v : V} {k : Key} (h : Rel K H v (kT k)) : v = kV k := by
  cases k <;> cases h <;> rfl
theorem RelD.look {K : Fr0} {H : Hp} {k : Key} : ∀ {vs : List (Key × V)} {ts : List (T × T)}, RelD K H vs ts →
    (dlook ts (kT k) = none ∧ valV vs k = none) ∨ ∃ t v, dlook ts (kT k) = some t ∧ valV vs k = some v ∧ Rel K H v t
  | _, _, .nil => .inl ⟨rfl, rfl⟩
  | _, _, .cons (k := j) (v := v) (t := t) (kvs := r) (ts := u) h rs => by
    by_cases e : j = k
    · subst e
      refine .inr ⟨t, v, ?_, ?_, h⟩
      · simp [dlook]
      · simp [valV]
    · have e' : ¬ kT j = kT k := fun z => e (kT_inj z)
      rcases RelD.look (k := k) rs with ⟨h1, h2⟩ | ⟨t', v', h1, h2, h3⟩
      · refine .inl ⟨?_, ?_⟩
        · simp [dlook, e', h1]
        · simpa [valV, e] using h2
      · refine .inr ⟨t', v', ?_, ?_, h3⟩
        · simp [dlook, e', h1]
        · simpa [valV, e] using h2
end
end Dv
namespace Dv
open PySem L2
section
variable {X : Cx} {a b e o : Expr} {es : List Expr} {la lb : LE} {l : LA} {pos p2 apos cpos : Pos}

/-! ### subscripts -/
theorem atI_rel {K : Fr0} {H : Hp} {vs : List V} {ts : List T} {i : Int} {t : T} (r : RelL K H vs ts) (h : atI ts i = some t) : ∃ v, atI vs i = some v ∧ Rel K H v t := by
  unfold atI at h ⊢
  rw [r.length]
  cases q : ixN ts.length i with
  | none => rw [q] at h; cases h
  | some j =>
    rw [q] at h
    exact r.get h
def ixT : R2T
  | .tup xs, .int i, G, Φ => match atI xs i with
    | some t => Φ t G
    | none => False
  | .str z, .int i, G, Φ => z.length ≤ sizeLine ∧ match atI z.cps.toList i with
    | some c => Φ (.str ⟨#[c]⟩) G
    | none => False
  | .ref a, u, G, Φ => match G a with
    | some (.lst xs) => (match u with
      | .int i => (match atI xs i with
        | some t => Φ t G
        | none => False)
      | _ => False)
    | some (.dic kvs) => (match keyT u, dlook kvs u with
      | some _, some t => Φ t G
      | _, _ => False)
    | some (.fdic _ _ kvs) => (match keyT u, dlook kvs u with
      | some _, some t => Φ t G
      | _, _ => False)
    | _ => False
  | _, _, _, _ => False
def rIxDk : R2 := fun x y H Q => ∃ p k v kvs, x = .ref p ∧ y = kV k ∧ Rd H p (.dK kvs) ∧ valV kvs k = some v ∧ Q v H
theorem ix_dk (hu : X.A.units + 1 < cLine) : IxR X rIxDk := by
  intro value slice pins s σ H x y v u Q I rx ry h hs
  obtain ⟨p, k, w0, kvs, rfl, rfl, hp, hv, q⟩ := h
  obtain rfl : v = Value.ref p := rx
  have g : DGet H p (kV k) (some w0) := .inl ⟨kvs, k, hp, rfl, hv.symm⟩
  exact PyProof.Rows.tail_any (dict_typeIs I g) PySem.F.slot_dict_getitem.lookup (d_getItem hu I g ry fun w' s' I' r' => ⟨w0, H, I', r', q⟩) hs
theorem IxR.weak {r r' : R2} (h : IxR X r) (w : ∀ x y H Q, r' x y H Q → r x y H Q) : IxR X r' := fun value slice pins s σ H x y v u Q I rx ry q hs => h value slice pins s σ H x y v u Q I rx ry (w x y H Q q) hs
theorem ix_all (hu : X.A.units + 1 < cLine) : IxR X (low2 X.K en ixT) := by
  refine IxR.weak (ix_seq.or (ix_dk hu)) fun x y H Q ⟨t, u, G, Φ, rt, ru, g, q, k⟩ => ?_
  cases rt with
  | tup hs rs =>
    cases ru with
    | int i =>
      simp only [ixT] at q
      split at q
      · rename_i t e
        obtain ⟨v, h1, h2⟩ := atI_rel rs e
        exact .inl (.inr (.inl ⟨_, _, i, v, rfl, rfl, hs, h1, k _ _ _ _ q h2 g (Step.refl H G)⟩))
      · exact q.elim
    | _ => exact q.elim
  | str z =>
    cases ru with
    | int i =>
      simp only [ixT] at q
      obtain ⟨hz, q⟩ := q
      split at q
      · rename_i c e
        exact .inl (.inr (.inr ⟨z, i, c, rfl, rfl, hz, e, k _ _ _ _ q (.str _) g (Step.refl H G)⟩))
      · exact q.elim
    | _ => exact q.elim
  | ref p =>
    simp only [ixT] at q
    split at q
    · rename_i xs e
      cases ru with
      | int i =>
        simp only at q
        split at q
        · rename_i t e2
          obtain ⟨vs, h1, r1⟩ := g.obj _ _ e
          obtain ⟨v, h2, h3⟩ := atI_rel r1 e2
          exact .inl (.inl ⟨_, _, i, v, rfl, rfl, SqL.of h1, h2, k _ _ _ _ q h3 g (Step.refl H G)⟩)
        · exact q.elim
      | _ => exact q.elim
    · rename_i kvs e
      split at q
      · rename_i k0 t e1 e2
        obtain ⟨vs, h1, r1⟩ := g.obj _ _ e
        have eu := keyT_kT e1
        subst eu
        rcases r1.look (k := k0) with ⟨h2, _⟩ | ⟨t', v, h2, h3, h4⟩
        · rw [h2] at e2; cases e2
        · rw [h2] at e2; cases e2
          exact .inr ⟨p, k0, v, vs, rfl, ru.key, .inl h1, h3, k _ _ _ _ q h4 g (Step.refl H G)⟩
      · exact q.elim
    · rename_i ob vs kvs e
      split at q
      · rename_i k0 t e1 e2
        obtain ⟨h1, r1⟩ := g.obj _ _ e
        have eu := keyT_kT e1
        subst eu
        rcases r1.look (k := k0) with ⟨h2, _⟩ | ⟨t', v, h2, h3, h4⟩
        · rw [h2] at e2; cases e2
        · rw [h2] at e2; cases e2
          exact .inr ⟨p, k0, v, vs, rfl, ru.key, .inr ⟨ob, h1⟩, h3, k _ _ _ _ q h4 g (Step.refl H G)⟩
      · exact q.elim
    · exact q.elim
  | _ => cases ru <;> exact q.elim
theorem e_ix (hu : X.A.units + 1 < cLine) (ha : E en X a la) (hb : E en X b lb) (hs : PlainIx b) : E en X (.Subscript a b pos) (lOp ixT la lb) :=
  PE.weak (pe_ix (ix_all hu) ha hb hs) fun σ H Q h => low2_run h

/-! ### slices -/
def cut {α : Type} (xs : List α) (lo hi : Option Int) : List α := (xs.drop (HT.sIx xs.length 0 lo)).take (HT.sIx xs.length xs.length hi - HT.sIx xs.length 0 lo)
theorem cut_rel {K : Fr0} {H : Hp} {vs : List V} {ts : List T} (r : RelL K H vs ts) (lo hi : Option Int) : RelL K H (cutV vs lo hi) (cut ts lo hi) := by
  unfold cutV cut
  rw [r.length]
  exact (r.drop _).take _
theorem cut_length {α : Type} (xs : List α) (lo hi : Option Int) : (cut xs lo hi).length ≤ xs.length := by
  unfold cut
  rw [List.length_take, List.length_drop]
  omega
abbrev LO := S2 → Gp → (Option Int → Gp → Prop) → Prop
def lowO (K : Fr0) (en : En) (lo : LO) : TO := fun σ H Q => ∃ S G Φ, SRel K H σ S ∧ HRel K en H G ∧ lo S G Φ ∧ ∀ i G' H', Φ i G' → HRel K en H' G' → Step H G H' G' → Q i H'
def Eo (en : En) (X : Cx) (e : Option Expr) (l : LO) : Prop := PO X e (lowO X.K en l)
def lNo : LO := fun _ G Φ => Φ none G
def lSome (la : LE) : LO := fun S G Φ => la S G fun t G1 => match t with
  | .int i => Φ (some i) G1
  | _ => False
theorem PO.weak {oe : Option Expr} {t t' : TO} (h : PO X oe t) (w : ∀ σ H Q, t' σ H Q → t σ H Q) : PO X oe t' := ⟨fun pins s σ H Q I q => h.run pins s σ H Q I (w σ H Q q)⟩
theorem eo_none : Eo en X none lNo := PO.weak po_none fun σ H Q ⟨S, G, Φ, s, g, q, k⟩ => k none G H q g (Step.refl H G)
theorem eo_some (ha : E en X a la) : Eo en X (some a) (lSome la) := PO.weak (po_some ha) fun σ H Q ⟨S, G, Φ, s, g, q, k⟩ => by
  refine ⟨S, G, _, s, g, q, fun t G1 v H1 q1 r1 g1 s1 => ?_⟩
  cases r1 with
  | int i => exact ⟨i, rfl, k (some i) G1 H1 q1 g1 s1⟩
  | _ => exact q1.elim
abbrev RST := T → Option Int → Option Int → Gp → QT → Prop
def slT : RST
  | .tup xs, lo, hi, G, Φ => Φ (.tup (cut xs lo hi)) G
  | .str z, lo, hi, G, Φ => z.length ≤ sizeLine ∧ Φ (.str (cutS z lo hi)) G
  | .ref a, lo, hi, G, Φ => match G a with
    | some (.lst xs) => ∀ p, G p = none → Φ (.ref p) (gup G p (.lst (cut xs lo hi)))
    | _ => False
  | _, _, _, _, _ => False
def lSl (la : LE) (lo hi : LO) : LE := fun S G Φ => la S G fun t G1 => lo S G1 fun i G2 => hi S G2 fun j G3 => slT t i j G3 Φ
theorem cut_whole {α : Type} {xs : List α} {lo hi : Option Int} (h : HT.sIx xs.length 0 lo = 0 ∧ HT.sIx xs.length xs.length hi = xs.length) : cut xs lo hi = xs := by
  unfold cut
  rw [h.1, h.2]
  simp
theorem e_slice {lo hi : Option Expr} {llo lhi : LO} (ha : E en X a la) (hl : Eo en X lo llo) (hh : Eo en X hi lhi) : E en X (.Subscript a (.Slice lo hi none p2) pos) (lSl la llo lhi) := by
  refine PE.weak (pe_slice (SlR.or sl_list (SlR.or sl_tupA sl_str)) ha hl hh) fun σ H Q ⟨S, G, Φ, s, g, q, k⟩ => ?_
  refine ⟨S, G, _, s, g, q, fun t G1 v H1 q1 r1 g1 s1 => ?_⟩
  refine ⟨S, G1, _, s.stay (s1.stay g), g1, q1, fun i G2 H2 q2 g2 s2 => ?_⟩
  refine ⟨S, G2, _, s.stay ((s1.trans s2).stay g), g2, q2, fun j G3 H3 q3 g3 s3 => ?_⟩
  have r3 := r1.stay ((s2.trans s3).stay g1)
  have s13 := (s1.trans s2).trans s3
  cases r3 with
  | tup hs rs =>
    refine .inr (.inl ⟨_, _, rfl, hs, fun hw => ?_, fun _ p hp => ?_⟩)
    · have e := cut_whole (xs := _) (lo := i) (hi := j) (by rw [← rs.length]; exact hw)
      have q3 : Φ (.tup (cut _ i j)) G3 := q3
      rw [e] at q3
      exact k _ _ _ _ q3 (.tup hs rs) g3 s13
    · obtain ⟨r4, g4, s4⟩ := tup_laid g3 hp (cut_rel rs i j)
      exact k _ _ _ _ q3 r4 g4 (s13.trans s4)
  | str z => exact .inr (.inr ⟨z, rfl, q3.1, k _ _ _ _ q3.2 (.str _) g3 s13⟩)
  | ref p =>
    simp only [slT] at q3
    split at q3
    · rename_i xs e
      obtain ⟨vs, h1, r4⟩ := g3.obj _ _ e
      refine .inl ⟨p, vs, rfl, SqL.of h1, fun p' hp => ?_⟩
      obtain ⟨g4, s4⟩ := lst_laid g3 hp (cut_rel r4 i j)
      exact k _ _ _ _ (q3 p' (g3.fresh hp)) (.ref p') g4 (s13.trans s4)
    · exact q3.elim
  | _ => exact q3.elim
/-- xs[::-1] of a list -/
def revT : R1T
  | .ref a, G, Φ => match G a with
    | some (.lst xs) => ∀ p, G p = none → Φ (.ref p) (gup G p (.lst xs.reverse))
    | _ => False
  | _, _, _ => False
theorem e_rev {k : Nat} {p1 p2 p3 : Pos} (ha : E en X a la) : E en X (.Subscript a (.Slice none none (some (.UnaryOp .USub (.Constant (.int 1) k p1) p2)) p3) pos) (lUn revT la) := by
  refine PE.weak (pe_revL ha) fun σ H Q ⟨S, G, Φ, s, g, q, kk⟩ => ?_
  refine ⟨S, G, _, s, g, q, fun t G1 v H1 q1 r1 g1 s1 => ?_⟩
  cases r1 with
  | ref p =>
    simp only [revT] at q1
    split at q1
    · rename_i xs e
      obtain ⟨vs, h1, r4⟩ := g1.obj _ _ e
      refine ⟨p, vs, rfl, SqL.of h1, fun p' hp => ?_⟩
      obtain ⟨g4, s4⟩ := lst_laid g1 hp r4.rev
      exact kk _ _ _ _ (q1 p' (g1.fresh hp)) (.ref p') g4 (s1.trans s4)
    · exact q1.elim
  | _ => exact q1.elim

/-! ### in, not in -/
def flatT : T → Bool
  | .bl _ | .int _ | .str _ | .non => true
  | _ => false
/-- a key in a dict; a sign in a text; data in a list -/
def inT (neg : Bool) : R2T
  | t, .ref a, G, Φ => match G a with
    | some (.dic kvs) => (match keyT t with
      | some _ => Φ (.bl (if neg then !(dlook kvs t).isSome else (dlook kvs t).isSome)) G
      | none => False)
    | some (.fdic _ _ kvs) => (match keyT t with
      | some _ => Φ (.bl (if neg then !(dlook kvs t).isSome else (dlook kvs t).isSome)) G
      | none => False)
    | some (.lst _) => ∃ d ds, Dat G t d ∧ Dat G (.ref a) (.list ds) ∧ SeqAt.shaped d = true ∧ SeqAt.shaped (.list ds) = true ∧ Φ (.bl (if neg then !ds.any fun z => PyData.eqv z d else ds.any fun z => PyData.eqv z d)) G
    | _ => False
  | .str x, .str z, G, Φ => ∃ c, x = ⟨#[c]⟩ ∧ Φ (.bl (if neg then !decide (c ∈ z.cps.toList) else decide (c ∈ z.cps.toList))) G
  | .str x, .tup ts, G, Φ => ∃ ss : List Str, ts = ss.map T.str ∧ Φ (.bl (if neg then !decide (x ∈ ss) else decide (x ∈ ss))) G
  | _, _, _, _ => False
theorem RelL.strs {K : Fr0} {H : Hp} : ∀ {vs : List V} {ss : List Str}, RelL K H vs (ss.map T.str) → vs = ss.map V.str
  | [], [], _ => rfl
  | v :: vs, s :: ss, h => by
    rw [List.map_cons] at h
    cases h with
    | cons h1 h2 =>
      cases h1
      rw [List.map_cons, RelL.strs h2]
  | [], _ :: _, h => by rw [List.map_cons] at h; cases h
  | _ :: _, [], h => by cases h
theorem inV_strs (x : Str) : ∀ ss : List Str, inV (.str x) (ss.map V.str) = decide (x ∈ ss)
  | [] => rfl
  | s :: ss => by
    have ih := inV_strs x ss
    unfold inV at ih ⊢
    rw [List.map_cons, List.any_cons, ih]
    have e : eqV (.str s) (.str x) = decide (x = s) := by
      show (s == x) = _
      by_cases h : s = x
      · subst h; simp
      · have h2 : ¬ x = s := fun z => h z.symm
        simp [h, h2]
    rw [e]
    by_cases h : x = s <;> simp [h]
theorem flat_strs (ss : List Str) : (ss.map V.str).all flatV = true := by
  rw [List.all_eq_true]
  intro v hv
  obtain ⟨s, _, rfl⟩ := List.mem_map.mp hv
  rfl
theorem op_din (hu : X.A.units + 1 < cLine) : OpR X (compareOp .In) (fun y x H Q => ∃ a k kvs, x = .ref a ∧ y = kV k ∧ Rd H a (.dK kvs) ∧ Q (.bl (valV kvs k).isSome) H) := by
  intro pins s σ H y x u v Q I ry rx h
  obtain ⟨a, k, kvs, rfl, rfl, hp, q⟩ := h
  obtain rfl : v = Value.ref a := rx
  exact d_in hu I (.inl ⟨kvs, k, hp, rfl, rfl⟩) ry fun s3 I3 => ⟨.bl _, H, I3, rfl, q⟩
theorem op_dnotin (hu : X.A.units + 1 < cLine) : OpR X (compareOp .NotIn) (fun y x H Q => ∃ a k kvs, x = .ref a ∧ y = kV k ∧ Rd H a (.dK kvs) ∧ Q (.bl (!(valV kvs k).isSome)) H) := by
  intro pins s σ H y x u v Q I ry rx h
  obtain ⟨a, k, kvs, rfl, rfl, hp, q⟩ := h
  obtain rfl : v = Value.ref a := rx
  exact d_notIn hu I (.inl ⟨kvs, k, hp, rfl, rfl⟩) ry fun s3 I3 => ⟨.bl _, H, I3, rfl, q⟩
theorem look_some {K : Fr0} {H : Hp} {vs : List (Key × V)} {ts : List (T × T)} (r : RelD K H vs ts) (k : Key) : (valV vs k).isSome = (dlook ts (kT k)).isSome := by
  rcases r.look (k := k) with ⟨h1, h2⟩ | ⟨t, v, h1, h2, _⟩ <;> rw [h1, h2] <;> rfl
theorem o_in (hu : X.A.units + 65 < cLine) : OpR X (compareOp .In) (low2 X.K en (inT false)) := by
  refine OpR.weak (OpR.or (op_din (by omega)) (OpR.or (op_inD hu) (OpR.or op_in_sign op_in_seq))) fun x y H Q ⟨t, u, G, Φ, rt, ru, g, q, k⟩ => ?_
  cases ru with
  | ref a =>
    have q : (match G a with
      | some (.dic kvs) => (match keyT t with
        | some _ => Φ (.bl (dlook kvs t).isSome) G
        | none => False)
      | some (.fdic _ _ kvs) => (match keyT t with
        | some _ => Φ (.bl (dlook kvs t).isSome) G
        | none => False)
      | some (.lst _) => ∃ d ds, Dat G t d ∧ Dat G (.ref a) (.list ds) ∧ SeqAt.shaped d = true ∧ SeqAt.shaped (.list ds) = true ∧ Φ (.bl (ds.any fun z => PyData.eqv z d)) G
      | _ => False) := by cases t <;> exact q
    split at q
    · rename_i kvs e
      split at q
      · rename_i k0 e1
        obtain ⟨vs, h1, r1⟩ := g.obj _ _ e
        have eu := keyT_kT e1
        subst eu
        exact .inl ⟨a, k0, vs, rfl, rt.key, .inl h1, by rw [look_some r1]; exact k _ _ _ _ q (.bl _) g (Step.refl H G)⟩
      · exact q.elim
    · rename_i ob vs kvs e
      split at q
      · rename_i k0 e1
        obtain ⟨h1, r1⟩ := g.obj _ _ e
        have eu := keyT_kT e1
        subst eu
        exact .inl ⟨a, k0, vs, rfl, rt.key, .inr ⟨ob, h1⟩, by rw [look_some r1]; exact k _ _ _ _ q (.bl _) g (Step.refl H G)⟩
      · exact q.elim
    · obtain ⟨d, ds, h1, h2, h3, h4, q⟩ := q
      exact .inr (.inl ⟨d, ds, h1.dp g rt, h2.dp g (.ref a), h3, h4, k _ _ _ _ q (.bl _) g (Step.refl H G)⟩)
    · exact q.elim
  | str z =>
    cases rt with
    | str x =>
      obtain ⟨c, rfl, q⟩ := q
      exact .inr (.inr (.inl ⟨c, z, rfl, rfl, k _ _ _ _ q (.bl _) g (Step.refl H G)⟩))
    | _ => exact q.elim
  | tup hs rs =>
    cases rt with
    | str x =>
      obtain ⟨ss, rfl, q⟩ := q
      have e := rs.strs
      subst e
      refine .inr (.inr (.inr ⟨_, _, rfl, .inr hs, rfl, flat_strs ss, ?_⟩))
      rw [if_neg Bool.false_ne_true, inV_strs]
      exact k _ _ _ _ q (.bl _) g (Step.refl H G)
    | _ => exact q.elim
  | _ => cases rt <;> exact q.elim
theorem o_notin (hu : X.A.units + 65 < cLine) : OpR X (compareOp .NotIn) (low2 X.K en (inT true)) := by
  refine OpR.weak (OpR.or (op_dnotin (by omega)) (OpR.or (op_notInD hu) (OpR.or op_notIn_sign op_notIn_seq))) fun x y H Q ⟨t, u, G, Φ, rt, ru, g, q, k⟩ => ?_
  cases ru with
  | ref a =>
    have q : (match G a with
      | some (.dic kvs) => (match keyT t with
        | some _ => Φ (.bl (!(dlook kvs t).isSome)) G
        | none => False)
      | some (.fdic _ _ kvs) => (match keyT t with
        | some _ => Φ (.bl (!(dlook kvs t).isSome)) G
        | none => False)
      | some (.lst _) => ∃ d ds, Dat G t d ∧ Dat G (.ref a) (.list ds) ∧ SeqAt.shaped d = true ∧ SeqAt.shaped (.list ds) = true ∧ Φ (.bl (!ds.any fun z => PyData.eqv z d)) G
      | _ => False) := by cases t <;> exact q
    split at q
    · rename_i kvs e
      split at q
      · rename_i k0 e1
        obtain ⟨vs, h1, r1⟩ := g.obj _ _ e
        have eu := keyT_kT e1
        subst eu
        exact .inl ⟨a, k0, vs, rfl, rt.key, .inl h1, by rw [look_some r1]; exact k _ _ _ _ q (.bl _) g (Step.refl H G)⟩
      · exact q.elim
    · rename_i ob vs kvs e
      split at q
      · rename_i k0 e1
        obtain ⟨h1, r1⟩ := g.obj _ _ e
        have eu := keyT_kT e1
        subst eu
        exact .inl ⟨a, k0, vs, rfl, rt.key, .inr ⟨ob, h1⟩, by rw [look_some r1]; exact k _ _ _ _ q (.bl _) g (Step.refl H G)⟩
      · exact q.elim
    · obtain ⟨d, ds, h1, h2, h3, h4, q⟩ := q
      exact .inr (.inl ⟨d, ds, h1.dp g rt, h2.dp g (.ref a), h3, h4, k _ _ _ _ q (.bl _) g (Step.refl H G)⟩)
    · exact q.elim
  | str z =>
    cases rt with
    | str x =>
      obtain ⟨c, rfl, q⟩ := q
      exact .inr (.inr (.inl ⟨c, z, rfl, rfl, k _ _ _ _ q (.bl _) g (Step.refl H G)⟩))
    | _ => exact q.elim
  | tup hs rs =>
    cases rt with
    | str x =>
      obtain ⟨ss, rfl, q⟩ := q
      have e := rs.strs
      subst e
      refine .inr (.inr (.inr ⟨_, _, rfl, .inr hs, rfl, flat_strs ss, ?_⟩))
      rw [if_pos rfl, inV_strs]
      exact k _ _ _ _ q (.bl _) g (Step.refl H G)
    | _ => exact q.elim
  | _ => cases rt <;> exact q.elim
end
end Dv
namespace Dv
open PySem L2
section
variable {X : Cx} {a b c e o i : Expr} {es : List Expr} {st : Stmt} {ss ss2 : List Stmt} {la lb lo li : LE} {l : LA} {tl : LT} {pos p2 : Pos} {ls ms : LS}

/-! ### small statements -/
def lNext : LS := fun L S G => L.nx S G
/-- what was made and isn't told any more may be forgotten in between -/
def lSeq (a b : LS) : LS := fun L S G => a { L with nx := fun S' G' => ∃ G0, Sub G0 G' ∧ b L S' G0 } S G
def lDrop (la : LE) : LS := fun L S G => la S G fun _ G1 => L.nx S G1
def lRet (la : LE) : LS := fun L S G => la S G L.rt
def lRetN : LS := fun L _ G => L.rt .non G
def lIfS (c : LT) (a b : LS) : LS := fun L S G => c S G fun k G1 => if k = true then a L S G1 else b L S G1
def lBreak : LS := fun L S G => L.bk S G
def lCont : LS := fun L S G => L.ct S G
def lNever : LS := fun _ _ _ => False
theorem es_nil : Ess en X [] lNext := PSs.weak pss_nil fun D σ H ⟨S, G, L, s, g, q, e⟩ => e.nx S G σ H q s g (Step.refl H G)
theorem es_cons (h : Es en X st ls) (hr : Ess en X ss ms) : Ess en X (st :: ss) (lSeq ls ms) := by
  refine PSs.weak (pss_cons h hr) fun D σ H ⟨S, G, L, s, g, q, e⟩ => ?_
  refine ⟨S, G, { L with nx := fun S' G' => ∃ G0, Sub G0 G' ∧ ms L S' G0 }, s, g, q, ⟨fun S' G' σ' H' ⟨G0, sb, q'⟩ s' g' t => ⟨S', G0, L, s', g'.sub sb, q', e.step (t.sub sb)⟩, e.rt, e.bk, e.ct⟩⟩
theorem es_one (h : Es en X st ls) : Ess en X [st] ls := pss_one h
theorem es_never : Ess en X ss lNever := PSs.weak pss_never fun D σ H ⟨S, G, L, s, g, q, e⟩ => q.elim
theorem s_never : Es en X st lNever := PS.weak ps_never fun D σ H ⟨S, G, L, s, g, q, e⟩ => q.elim
theorem s_pass : Es en X (.Pass pos) lNext := PS.weak ps_pass fun D σ H ⟨S, G, L, s, g, q, e⟩ => e.nx S G σ H q s g (Step.refl H G)
theorem s_break : Es en X (.Break pos) lBreak := PS.weak ps_break fun D σ H ⟨S, G, L, s, g, q, e⟩ => e.bk S G σ H q s g (Step.refl H G)
theorem s_cont : Es en X (.Continue pos) lCont := PS.weak ps_continue fun D σ H ⟨S, G, L, s, g, q, e⟩ => e.ct S G σ H q s g (Step.refl H G)
theorem s_doc {x : Str} {j : Nat} {p : Pos} : Es en X (.Expr (.Constant (.str x) j p) pos) lNext := PS.weak ps_doc fun D σ H ⟨S, G, L, s, g, q, e⟩ => e.nx S G σ H q s g (Step.refl H G)
theorem s_expr (h : E en X e la) (hs : swapsWith e none pos.line X.env = pure false := by rfl) : Es en X (.Expr e pos) (lDrop la) :=
  PS.weak (ps_expr h hs) fun D σ H ⟨S, G, L, s, g, q, en⟩ => ⟨S, G, _, s, g, q, fun t G1 v H1 q1 r1 g1 s1 => en.nx S G1 σ H1 q1 (s.stay (s1.stay g)) g1 s1⟩
theorem s_ret (h : E en X e la) : Es en X (.Return (some e) pos) (lRet la) :=
  PS.weak (ps_ret h) fun D σ H ⟨S, G, L, s, g, q, en⟩ => ⟨S, G, _, s, g, q, fun t G1 v H1 q1 r1 g1 s1 => en.rt t G1 v H1 q1 r1 g1 s1⟩
theorem s_retN : Es en X (.Return none pos) lRetN := PS.weak ps_retN fun D σ H ⟨S, G, L, s, g, q, en⟩ => en.rt .non G .non H q .non g (Step.refl H G)
theorem s_if (hc : Et en X c tl) (ha : Ess en X ss ls) (hb : Ess en X ss2 ms) : Es en X (.If c ss ss2 pos) (lIfS tl ls ms) := by
  refine PS.weak (ps_if hc ha hb) fun D σ H ⟨S, G, L, s, g, q, e⟩ => ?_
  refine ⟨S, G, _, s, g, q, fun k G1 H1 q1 g1 s1 => ?_⟩
  cases k with
  | true => exact ⟨S, G1, L, s.stay (s1.stay g), g1, q1, e.step s1⟩
  | false => exact ⟨S, G1, L, s.stay (s1.stay g), g1, q1, e.step s1⟩

/-! ### targets that are names -/
theorem wipe_set {σ : L2.St} {j : Nat} {x : Option V} : ∀ {ws : List Nat}, j ∈ ws → L2.wipe (σ.set j x) ws = L2.wipe σ ws
  | [], h => by cases h
  | w :: ws, h => by
    show (L2.wipe (σ.set j x) ws).set w none = (L2.wipe σ ws).set w none
    by_cases hj : j ∈ ws
    · rw [wipe_set hj]
    · have e : j = w := by
        rcases List.mem_cons.mp h with z | z
        · exact z
        · exact absurd z hj
      subst e
      have aux : ∀ us : List Nat, j ∉ us → L2.wipe (σ.set j x) us = (L2.wipe σ us).set j x := by
        intro us
        induction us with
        | nil => intro _; rfl
        | cons u us ih =>
          intro hu
          show (L2.wipe (σ.set j x) us).set u none = ((L2.wipe σ us).set u none).set j x
          rw [ih fun z => hu (List.mem_cons_of_mem _ z), List.set_comm _ _ (fun z => hu (by rw [z]; exact List.mem_cons_self))]
      rw [aux ws hj, List.set_set]
def Keeps (σ σ' : L2.St) (vs : List Nat) : Prop := ∀ ws : List Nat, (∀ j ∈ vs, j ∈ ws) → L2.wipe σ' ws = L2.wipe σ ws
def lowN (K : Fr0) (f : T → S2 → Option S2) (vs : List Nat) : TG := fun v σ H Q => ∃ t S S', Rel K H v t ∧ SRel K H σ S ∧ f t S = some S' ∧ ∀ σ', SRel K H σ' S' → Keeps σ σ' vs → Q σ' H
def lowNs (K : Fr0) (f : List T → S2 → Option S2) (vs : List Nat) : TGs := fun us σ H Q => ∃ ts S S', RelL K H us ts ∧ SRel K H σ S ∧ f ts S = some S' ∧ ∀ σ', SRel K H σ' S' → Keeps σ σ' vs → Q σ' H
def Eg (X : Cx) (tg : Expr) (f : T → S2 → Option S2) (vs : List Nat) : Prop := PG X tg (lowN X.K f vs)
def Egs (X : Cx) (tg : List Expr) (f : List T → S2 → Option S2) (vs : List Nat) : Prop := PGs X tg (lowNs X.K f vs)
theorem PG.weak {t t' : TG} (h : PG X e t) (w : ∀ v σ H Q, t' v σ H Q → t v σ H Q) : PG X e t' := ⟨fun pins s σ H v u Q I r q => h.run pins s σ H v u Q I r (w v σ H Q q)⟩
theorem PGs.weak {t t' : TGs} (h : PGs X es t) (w : ∀ v σ H Q, t' v σ H Q → t v σ H Q) : PGs X es t' := ⟨fun pins s σ H v u Q I r q => h.run pins s σ H v u Q I r (w v σ H Q q)⟩
def gN (j : Nat) : T → S2 → Option S2 := fun t S => some (S.set j (some t))
def gNil2 : List T → S2 → Option S2 := fun ts S => match ts with
  | [] => some S
  | _ => none
def gCons2 (f : T → S2 → Option S2) (r : List T → S2 → Option S2) : List T → S2 → Option S2 := fun ts S => match ts with
  | t :: ts => (match f t S with
    | some S' => r ts S'
    | none => none)
  | [] => none
def gT (n : Nat) (f : List T → S2 → Option S2) : T → S2 → Option S2 := fun t S => match t with
  | .tup ts => if ts.length = n then f ts S else none
  | _ => none
theorem g_name {j : Nat} {x : Str} (hN : X.N.Nodup) (hi : X.N[j]? = some x) (hx : Loc X.env.scope x) (hf : X.fn x = true ∨ X.env.scope.names.lookup x = some .local := by first | exact .inl rfl | exact .inr rfl | assumption) : Eg X (.Name x pos) (gN j) [j] :=
  PG.weak (pg_name hN hi hx hf) fun v σ H Q ⟨t, S, S', r, s, e, k⟩ => by
    cases e
    exact k _ (s.set r j) fun ws h => wipe_set (h j (by simp))
theorem gs_nil : Egs X [] gNil2 [] := PGs.weak pgs_nil fun us σ H Q ⟨ts, S, S', r, s, e, k⟩ => by
  cases r with
  | nil =>
    cases e
    exact ⟨rfl, k σ s fun _ _ => rfl⟩
  | cons _ _ => cases e
theorem gs_cons {f : T → S2 → Option S2} {r : List T → S2 → Option S2} {vs ws : List Nat} (h : Eg X e f vs) (hr : Egs X es r ws)
    (he : (assignEach (e :: es) X.env).map (·.2) = assign e X.env :: (assignEach es X.env).map (·.2) := by rfl) : Egs X (e :: es) (gCons2 f r) (vs ++ ws) := by
  refine PGs.weak (pgs_cons h hr he) fun us σ H Q ⟨ts, S, S', rr, s, q, k⟩ => ?_
  cases rr with
  | nil => cases q
  | @cons v0 t us ts r1 r2 =>
    simp only [gCons2] at q
    split at q
    · rename_i S1 e1
      refine ⟨_, _, rfl, t, S, S1, r1, s, e1, fun σ1 s1 k1 => ?_⟩
      refine ⟨ts, S1, S', r2, s1, q, fun σ2 s2 k2 => k σ2 s2 fun ws hw => ?_⟩
      rw [k2 ws fun j hj => hw j (List.mem_append_right _ hj), k1 ws fun j hj => hw j (List.mem_append_left _ hj)]
    · cases q
theorem g_tup {f : List T → S2 → Option S2} {vs : List Nat} {n k : Nat} (hc : X.calm = true) (h : Egs X es f vs)
    (hn : (assignEach es X.env).length = n := by rfl) (hst : (assignEach es X.env).findIdx? (·.1) = none := by rfl) : Eg X (.Tuple es k pos) (gT n f) vs :=
  PG.weak (pg_tup hc h hn hst) fun v σ H Q ⟨t, S, S', r, s, e, k⟩ => by
    cases r with
    | @tup p xs ts hs rs =>
      simp only [gT] at e
      split at e
      · rename_i hl
        exact ⟨p, xs, rfl, hs, rs.length.trans hl, ts, S, S', rs, s, e, k⟩
      · cases e
    | _ => cases e
def lAsg (la : LE) (f : T → S2 → Option S2) : LS := fun L S G => la S G fun t G1 => match f t S with
  | some S' => L.nx S' G1
  | none => False
theorem low_asg {K : Fr0} {f : T → S2 → Option S2} {vs : List Nat} : ∀ D σ H, lowS K en (lAsg la f) D σ H → tAsg (low K en la) (lowN K f vs) D σ H := by
  intro D σ H ⟨S, G, L, s, g, q, en⟩
  refine ⟨S, G, _, s, g, q, fun t G1 v H1 q1 r1 g1 s1 => ?_⟩
  split at q1
  · rename_i S' e
    exact ⟨t, S, S', r1, s.stay (s1.stay g), e, fun σ' s' _ => en.nx S' G1 σ' H1 q1 s' g1 s1⟩
  · exact q1.elim
theorem s_asg {f : T → S2 → Option S2} {vs : List Nat} (he : E en X e la) (hg : Eg X o f vs) (hs : swapsWithSole [o] e pos.line X.env = pure false := by rfl) (hw : swappedStores [o] e X.env = pure none := by rfl)
    (h1 : (assignEach [o] X.env).map (·.2) = [assign o X.env] := by rfl) : Es en X (.Assign [o] e pos) (lAsg la f) := PS.weak (ps_asg he hg hs hw h1) low_asg
theorem s_set {j : Nat} {x : Str} {pos' : Pos} (hN : X.N.Nodup) (hi : X.N[j]? = some x) (hx : Loc X.env.scope x) (he : E en X e la) (hs : swapsWith e (some (.Name x pos')) pos.line X.env = pure false := by rfl)
    (hf : X.fn x = true ∨ X.env.scope.names.lookup x = some .local := by first | exact .inl rfl | exact .inr rfl | assumption) : Es en X (.Assign [.Name x pos'] e pos) (lAsg la (gN j)) :=
  PS.weak (ps_set hN hi hx he hs hf) fun D σ H ⟨S, G, L, s, g, q, en⟩ => ⟨S, G, _, s, g, q, fun t G1 v H1 q1 r1 g1 s1 => en.nx _ G1 _ H1 q1 ((s.stay (s1.stay g)).set r1 j) g1 s1⟩
def lPar (j k : Nat) (l : LA) : LS := fun L S G => l S G fun ts G1 => match ts with
  | [t, u] => L.nx ((S.set j (some t)).set k (some u)) G1
  | _ => False
theorem s_par {j k : Nat} {x y : Str} {px py pt : Pos} {kt k2 : Nat} {pt2 : Pos} (hc : X.calm = true) (hN : X.N.Nodup) (hi : X.N[j]? = some x) (hj : X.N[k]? = some y) (hij : j ≠ k)
    (hx : X.env.scope.names.lookup x = some .local) (hy : X.env.scope.names.lookup y = some .local) (ha : Ea en X [a, b] l)
    (hw : swappedStores [.Tuple [.Name x px, .Name y py] kt pt] (.Tuple [a, b] k2 pt2) X.env = pure (some [x, y]))
    (hs : swapsWithSole [.Tuple [.Name x px, .Name y py] kt pt] (.Tuple [a, b] k2 pt2) pos.line X.env = pure false := by rfl) : Es en X (.Assign [.Tuple [.Name x px, .Name y py] kt pt] (.Tuple [a, b] k2 pt2) pos) (lPar j k l) :=
  PS.weak (ps_par hc hN hi hj hij hx hy ha hw hs) fun D σ H ⟨S, G, L, s, g, q, en⟩ => by
    refine ⟨S, G, _, s, g, q, fun ts G1 vs H1 q1 r1 g1 s1 => ?_⟩
    split at q1
    · rename_i t u
      cases r1 with
      | cons h1 h2 =>
        cases h2 with
        | cons h2 h3 =>
          cases h3
          exact ⟨_, _, rfl, en.nx _ G1 _ H1 q1 (((s.stay (s1.stay g)).set h1 j).set h2 k) g1 s1⟩
    · exact q1.elim
def lPar3 (j k m : Nat) (l : LA) : LS := fun L S G => l S G fun ts G1 => match ts with
  | [t, u, v] => L.nx (((S.set j (some t)).set k (some u)).set m (some v)) G1
  | _ => False
theorem s_par3 {j k m : Nat} {x y z : Str} {px py pz pt : Pos} {kt k2 : Nat} {pt2 : Pos} (hc : X.calm = true) (hN : X.N.Nodup) (hi : X.N[j]? = some x) (hj : X.N[k]? = some y) (hm : X.N[m]? = some z) (hij : j ≠ k) (hil : j ≠ m) (hjl : k ≠ m)
    (hx : X.env.scope.names.lookup x = some .local) (hy : X.env.scope.names.lookup y = some .local) (hz : X.env.scope.names.lookup z = some .local) (ha : Ea en X [a, b, c] l)
    (hw : swappedStores [.Tuple [.Name x px, .Name y py, .Name z pz] kt pt] (.Tuple [a, b, c] k2 pt2) X.env = pure (some [x, y, z]))
    (hs : swapsWithSole [.Tuple [.Name x px, .Name y py, .Name z pz] kt pt] (.Tuple [a, b, c] k2 pt2) pos.line X.env = pure false := by rfl) : Es en X (.Assign [.Tuple [.Name x px, .Name y py, .Name z pz] kt pt] (.Tuple [a, b, c] k2 pt2) pos) (lPar3 j k m l) :=
  PS.weak (ps_par3 hc hN hi hj hm hij hil hjl hx hy hz ha hw hs) fun D σ H ⟨S, G, L, s, g, q, en⟩ => by
    refine ⟨S, G, _, s, g, q, fun ts G1 vs H1 q1 r1 g1 s1 => ?_⟩
    split at q1
    · rename_i t u v
      cases r1 with
      | cons h1 h2 =>
        cases h2 with
        | cons h2 h3 =>
          cases h3 with
          | cons h3 h4 =>
            cases h4
            exact ⟨_, _, _, rfl, en.nx _ G1 _ H1 q1 ((((s.stay (s1.stay g)).set h1 j).set h2 k).set h3 m) g1 s1⟩
    · exact q1.elim

/-! ### stores at a[i] -/
def dput (kvs : List (T × T)) (k v : T) : List (T × T) :=
  if (kvs.any fun kv => decide (kv.1 = k)) = true then kvs.map (fun kv => if kv.1 = k then (kv.1, v) else kv) else kvs ++ [(k, v)]
theorem RelD.any {K : Fr0} {H : Hp} (k : Key) : ∀ {vs : List (Key × V)} {ts : List (T × T)}, RelD K H vs ts → (vs.any fun kv => decide (kv.1 = k)) = (ts.any fun kv => decide (kv.1 = kT k))
  | _, _, .nil => rfl
  | _, _, .cons (k := j) _ r => by
    rw [List.any_cons, List.any_cons, RelD.any k r]
    congr 1
    by_cases e : j = k
    · subst e; simp
    · have e' : ¬ kT j = kT k := fun z => e (kT_inj z)
      simp [e, e']
theorem RelD.mapPut {K : Fr0} {H : Hp} (k : Key) {v : V} {t : T} (h : Rel K H v t) : ∀ {vs : List (Key × V)} {ts : List (T × T)}, RelD K H vs ts →
    RelD K H (vs.map fun kv => if kv.1 = k then (kv.1, v) else kv) (ts.map fun kv => if kv.1 = kT k then (kv.1, t) else kv)
  | _, _, .nil => .nil
  | _, _, .cons (k := j) hr r => by
    rw [List.map_cons, List.map_cons]
    by_cases e : j = k
    · subst e
      rw [if_pos rfl, if_pos rfl]
      exact .cons h (RelD.mapPut _ h r)
    · have e' : ¬ kT j = kT k := fun z => e (kT_inj z)
      rw [if_neg e, if_neg e']
      exact .cons hr (RelD.mapPut _ h r)
theorem RelD.app {K : Fr0} {H : Hp} : ∀ {vs ws : List (Key × V)} {ts us : List (T × T)}, RelD K H vs ts → RelD K H ws us → RelD K H (vs ++ ws) (ts ++ us)
  | _, _, _, _, .nil, s => s
  | _, _, _, _, .cons r t, s => .cons r (RelD.app t s)
theorem RelD.put {K : Fr0} {H : Hp} {k : Key} {v : V} {t : T} {vs : List (Key × V)} {ts : List (T × T)} (r : RelD K H vs ts) (h : Rel K H v t) : RelD K H (putK vs k v) (dput ts (kT k) t) := by
  unfold putK dput
  rw [r.any k]
  split
  · exact r.mapPut k h
  · exact r.app (.cons h .nil)
theorem RelD.length {K : Fr0} {H : Hp} : ∀ {vs : List (Key × V)} {ts : List (T × T)}, RelD K H vs ts → vs.length = ts.length
  | _, _, .nil => rfl
  | _, _, .cons _ r => by simp [RelD.length r]
def setT : T → T → T → Gp → (Gp → Prop) → Prop
  | .ref a, u, v, G, Ψ => match G a with
    | some (.lst xs) => (match u with
      | .int k => (match ixN xs.length k with
        | some j => Ψ (gup G a (.lst (xs.set j v)))
        | none => False)
      | _ => False)
    | some (.dic kvs) => (match keyT u with
      | some _ => kvs.length < sizeLine ∧ Ψ (gup G a (.dic (dput kvs u v)))
      | none => False)
    | _ => False
  | _, _, _, _, _ => False
theorem set_dk (hu : X.A.units + 1 < cLine) : PSet X (fun o i v H Q => ∃ a k kvs, o = .ref a ∧ i = kV k ∧ H a = some (.dK kvs) ∧ kvs.length < sizeLine ∧ Q (L2.upd H a (.dK (putK kvs k v)))) := by
  intro pins s σ H o i v ov iv u Q I ro ri rv h
  obtain ⟨a, k, kvs, rfl, rfl, hp, hl, q⟩ := h
  obtain rfl : ov = Value.ref a := ro
  exact d_setItem hu I (DPut.k hp hl) ri rv fun s' I' => ⟨_, I', q⟩
theorem PSet.or {r r' : TSet} (h : PSet X r) (h' : PSet X r') : PSet X (fun o i v H Q => r o i v H Q ∨ r' o i v H Q) := fun pins s σ H o i v ov iv u Q I ro ri rv q => q.elim (h pins s σ H o i v ov iv u Q I ro ri rv) (h' pins s σ H o i v ov iv u Q I ro ri rv)
def lSet (lo li lv : LE) : LS := fun L S G => lv S G fun v G1 => lo S G1 fun t G2 => li S G2 fun u G3 => setT t u v G3 fun G4 => L.nx S G4
theorem s_store {e : Expr} {lv : LE} {p3 : Pos} (hu : X.A.units + 1 < cLine) (ho : E en X o lo) (hi : E en X i li) (he : E en X e lv) (hs : swapsWithSole [.Subscript o i p3] e pos.line X.env = pure false := by rfl) (hw : swappedStores [.Subscript o i p3] e X.env = pure none := by rfl)
    (h1 : (assignEach [.Subscript o i p3] X.env).map (·.2) = [assign (.Subscript o i p3) X.env] := by rfl)
    (ha : ∀ v, assign (.Subscript o i p3) X.env v = (do
      let ov ← holding [v] (eval o X.env)
      let iv ← holding [v, ov] (eval i X.env)
      standAt p3
      holding [v, ov, iv] (setItem ov iv v)
      release [v, ov, iv] []) := by intro _; rfl) : Es en X (.Assign [.Subscript o i p3] e pos) (lSet lo li lv) := by
  refine PS.weak (ps_asg he (pg_sub ho hi (PSet.or set_list (set_dk hu)) ha) hs hw h1) fun D σ H ⟨S, G, L, s, g, q, en⟩ => ?_
  refine ⟨S, G, _, s, g, q, fun v G1 x H1 q1 r1 g1 s1 => ?_⟩
  refine ⟨S, G1, _, s.stay (s1.stay g), g1, q1, fun t G2 y H2 q2 r2 g2 s2 => ?_⟩
  refine ⟨S, G2, _, s.stay ((s1.trans s2).stay g), g2, q2, fun u G3 z H3 q3 r3 g3 s3 => ?_⟩
  have s13 := (s1.trans s2).trans s3
  have rv := r1.stay ((s2.trans s3).stay g1)
  have rt := r2.stay (s3.stay g2)
  cases rt with
  | ref p =>
    simp only [setT] at q3
    split at q3
    · rename_i xs e3
      obtain ⟨vs, h4, r4⟩ := g3.obj _ _ e3
      cases r3 with
      | int k =>
        simp only at q3
        split at q3
        · rename_i j ej
          obtain ⟨g4, s4, st⟩ := g3.upd (a := p) (ho := .lst (vs.set j x)) (o := .lst (xs.set j v)) (.inr ⟨_, e3, fun n z => by cases z⟩) (fun n z => by cases z) ⟨_, upd_same, RelL.stay (stayL g3 e3 (fun n z => by cases z)) (r4.set rv j)⟩
          refine .inl ⟨p, vs, k, j, rfl, rfl, h4, by rw [r4.length]; exact ej, ?_⟩
          exact en.nx S _ σ _ q3 (s.stay ((s13.trans s4).stay g)) g4 (s13.trans s4)
        · exact q3.elim
      | _ => exact q3.elim
    · rename_i kvs e3
      split at q3
      · rename_i k0 ek
        obtain ⟨vs, h4, r4⟩ := g3.obj _ _ e3
        have eu := keyT_kT ek
        subst eu
        obtain ⟨g4, s4, st⟩ := g3.upd (a := p) (ho := .dK (putK vs k0 x)) (o := .dic (dput kvs (kT k0) v)) (.inr ⟨_, e3, fun n z => by cases z⟩) (fun n z => by cases z) ⟨_, upd_same, RelD.stay (stayL g3 e3 (fun n z => by cases z)) (r4.put rv)⟩
        refine .inr ⟨p, k0, vs, rfl, r3.key, h4, by rw [r4.length]; exact q3.1, ?_⟩
        exact en.nx S _ σ _ q3.2 (s.stay ((s13.trans s4).stay g)) g4 (s13.trans s4)
      · exact q3.elim
    · exact q3.elim
  | _ => exact q3.elim
end
end Dv
namespace Dv
open PySem L2

/-! ### cells that are not tracked -/
theorem own_upd {H : Hp} {G : Gp} {D a : Addr} {ho : HO} (h : ¬ Own H G D) : Own (L2.upd H D ho) G a ↔ Own H G a := by
  have e : ∀ d n, G d = some (.drw n) → (Hid (L2.upd H D ho) d a ↔ Hid H d a) := by
    intro d n e
    have hd : d ≠ D := fun z => h (.inl ⟨_, z ▸ e⟩)
    unfold Hid
    rw [upd_ne hd]
  constructor
  · rintro (z | ⟨d, n, q, r⟩)
    · exact .inl z
    · exact .inr ⟨d, n, q, (e d n q).mp r⟩
  · rintro (z | ⟨d, n, q, r⟩)
    · exact .inl z
    · exact .inr ⟨d, n, q, (e d n q).mpr r⟩
theorem own_sub {H : Hp} {G G' : Gp} {a : Addr} (s : Sub G G') : Own H G a → Own H G' a := fun z => z.imp (fun ⟨o, q⟩ => ⟨o, s _ _ q⟩) fun ⟨d, n, q, h⟩ => ⟨d, n, s _ _ q, h⟩
theorem not_own_new {K : Fr0} {H : Hp} {G : Gp} {D : Addr} (g : HRel K en H G) (h : H D = none) : ¬ Own H G D := by
  intro z
  obtain ⟨u, e, _⟩ := g.own_kind z
  rw [h] at e
  cases e
theorem Step.under {H0 H : Hp} {G0 G : Gp} {D : Addr} {ho : HO} (s : Step H0 G0 H G) (h0 : H0 D = none) (h : ¬ Own H G D) : Step H0 G0 (L2.upd H D ho) G := by
  have ne : ∀ a o, H0 a = some o → a ≠ D := fun a o e z => by rw [z, h0] at e; cases e
  refine ⟨fun a o e n => ?_, fun a o e => ?_⟩
  · obtain ⟨h1, h2⟩ := s.fr a o e n
    exact ⟨by rw [upd_ne (ne a o e)]; exact h1, fun z => h2 ((own_upd h).mp z)⟩
  · obtain ⟨o', h1⟩ := s.al a o e
    exact ⟨o', by rw [upd_ne (ne a o e)]; exact h1⟩
/-- a cell of ours, not tracked, is changed -/
theorem HRel.under {K : Fr0} {H : Hp} {G : Gp} {D : Addr} {ho u : HO} (g : HRel K en H G) (h : ¬ Own H G D) (e : H D = some u) (hk : kind u = true) (hen : ∀ e ∈ en, e.1 D = none) : HRel K en (L2.upd H D ho) G ∧ Stay K H (L2.upd H D ho) := by
  have st : Stay K H (L2.upd H D ho) := by
    have pne : ∀ p u', H p = some u' → kind u' = false → p ≠ D := by
      intro p u' e' h1 z
      subst z
      rw [e] at e'
      cases e'
      rw [h1] at hk
      cases hk
    refine ⟨fun p xs q => ?_, fun p o xs q => by rw [upd_ne (pne _ _ q rfl)]; exact q⟩
    rcases q with (q | ⟨u', q⟩) | q
    · exact .inl (.inl (by rw [upd_ne (pne _ _ q rfl)]; exact q))
    · exact .inl (.inr ⟨u', by rw [upd_ne (pne _ _ q rfl)]; exact q⟩)
    · exact .inr q
  have gne : ∀ b o, G b = some o → b ≠ D := fun b o q z => h (.inl ⟨o, z ▸ q⟩)
  refine ⟨⟨fun b o q => ?_, fun d n b q r => ?_, g.one, fun e he => (g.hist e he).under (hen e he) h⟩, st⟩
  · by_cases hdr : ∃ n, o = .drw n
    · obtain ⟨n, rfl⟩ := hdr
      obtain ⟨lg, it, l, t, ls, is, r⟩ := g.obj b _ q
      have h1 : lg ≠ D := fun z => h (.inr ⟨b, n, q, lg, it, l, t, r.hd, .inl z.symm⟩)
      have h2 : it ≠ D := fun z => h (.inr ⟨b, n, q, lg, it, l, t, r.hd, .inr z.symm⟩)
      exact ⟨lg, it, l, t, ls, is, ⟨by rw [upd_ne (gne b _ q)]; exact r.hd, by rw [upd_ne h1]; exact r.hlg, by rw [upd_ne h2]; exact r.hit, r.ne, r.lpos, r.ipos, r.ilen, r.llen, r.l0, r.t0, r.tn⟩⟩
    · exact (g.obj b o q).stay st (fun n z => hdr ⟨n, z⟩) (upd_ne (gne b o q))
  · refine g.sep d n b q ?_
    unfold Hid at r ⊢
    rw [upd_ne (gne d _ q)] at r
    exact r
theorem Step.adopt {H0 H : Hp} {G0 G : Gp} {D : Addr} {o : O} (s : Step H0 G0 H G) (h0 : H0 D = none) (hd : ∀ n, o ≠ .drw n) : Step H0 G0 H (gup G D o) := by
  have ne : ∀ a u, H0 a = some u → a ≠ D := fun a u e z => by rw [z, h0] at e; cases e
  refine ⟨fun a u e n => ?_, s.al⟩
  obtain ⟨h1, h2⟩ := s.fr a u e n
  refine ⟨h1, fun z => h2 ?_⟩
  rcases z with ⟨u', q⟩ | ⟨d, m, q, r⟩
  · rw [gup_ne (ne a u e)] at q
    exact .inl ⟨u', q⟩
  · by_cases hz : d = D
    · subst hz
      rw [gup_same] at q
      exact absurd (Option.some.inj q) (hd m)
    · rw [gup_ne hz] at q
      exact .inr ⟨d, m, q, r⟩

/-- .. is tracked from now on -/
theorem HRel.adopt {K : Fr0} {H : Hp} {G : Gp} {D : Addr} {o : O} (g : HRel K en H G) (h : ¬ Own H G D) (hd : ∀ n, o ≠ .drw n) (r : ORel K H D o) (hen : ∀ e ∈ en, e.1 D = none) : HRel K en H (gup G D o) := by
  have gdr : ∀ d n, gup G D o d = some (.drw n) → G d = some (.drw n) := by
    intro d n e
    by_cases z : d = D
    · subst z
      rw [gup_same] at e
      exact absurd (Option.some.inj e) (hd n)
    · rw [gup_ne z] at e
      exact e
  refine ⟨fun b u e => ?_, fun d n b e q => ?_, fun d d' n n' e e' => g.one d d' n n' (gdr d n e) (gdr d' n' e'), fun e he => (g.hist e he).adopt (hen e he) hd⟩
  · by_cases z : b = D
    · subst z
      rw [gup_same] at e
      cases e
      exact r
    · rw [gup_ne z] at e
      exact g.obj b u e
  · have e' := gdr d n e
    have hb : b ≠ D := fun z => h (.inr ⟨d, n, e', z ▸ q⟩)
    rw [gup_ne hb]
    exact g.sep d n b e' q
theorem wipe_wipe (σ : L2.St) : ∀ vs : List Nat, L2.wipe (L2.wipe σ vs) vs = L2.wipe σ vs := by
  have get : ∀ (vs : List Nat) (τ : L2.St) (j : Nat), j ∈ vs → (L2.wipe τ vs)[j]? = if j < τ.length then some none else none := by
    intro vs
    induction vs with
    | nil => intro τ j h; cases h
    | cons v vs ih =>
      intro τ j h
      show ((L2.wipe τ vs).set v none)[j]? = _
      by_cases e : v = j
      · subst e
        by_cases hl : v < τ.length
        · rw [if_pos hl, List.getElem?_set_self (by rw [L2.wipe_length]; exact hl)]
        · rw [if_neg hl, List.getElem?_eq_none (by rw [List.length_set, L2.wipe_length]; omega)]
      · rw [List.getElem?_set_ne e]
        exact ih τ j ((List.mem_cons.mp h).resolve_left fun z => e z.symm)
  intro vs
  apply List.ext_getElem?
  intro j
  by_cases h : j ∈ vs
  · rw [get vs _ j h, get vs _ j h, L2.wipe_length]
  · rw [L2.wipe_out h]
/-! ### what is walked -/
structure ItOk (K : Fr0) (en : En) (J : It) (items : List T) (Keep : Gp → Prop) (kh : Hp → Prop) : Prop where
  stab : ∀ H H', Stay K H H' → kh H → kh H'
  go : ∀ (i : Nat) H G, HRel K en H G → Keep G → kh H → i < items.length → J.go i H
  stop : ∀ (i : Nat) H G, HRel K en H G → Keep G → kh H → items.length ≤ i → J.stop i H
  yld : ∀ (i : Nat) H G x H', HRel K en H G → Keep G → kh H → J.yld i H x H' → i < items.length → ∃ t, items[i]? = some t ∧ Rel K H' x t ∧ HRel K en H' G ∧ Step H G H' G
abbrev LI := S2 → Gp → (List T → (Gp → Prop) → Gp → Prop) → Prop
def lowI (K : Fr0) (en : En) (li : LI) : TI := fun σ H R => ∃ S G Ψ, SRel K H σ S ∧ HRel K en H G ∧ li S G Ψ ∧ ∀ items Keep G' H' J kh, Ψ items Keep G' → HRel K en H' G' → Step H G H' G' → ItOk K en J items Keep kh → kh H' → R J H'
def Ei (en : En) (X : Cx) (tg iter : Expr) (li : LI) : Prop := PI X tg iter (lowI X.K en li)
def forW (L : LEnds) (f : T → S2 → Option S2) (b : LS) (Keep : Gp → Prop) : List T → S2 → Gp → Prop
  | [], S, G => Keep G ∧ L.nx S G
  | t :: r, S, G => Keep G ∧ match f t S with
    | some S' => b { L with nx := fun S1 G1 => ∃ G0, Sub G0 G1 ∧ forW L f b Keep r S1 G0, ct := fun S1 G1 => ∃ G0, Sub G0 G1 ∧ forW L f b Keep r S1 G0, bk := L.nx } S' G
    | none => False
def lFor (li : LI) (f : T → S2 → Option S2) (b : LS) : LS := fun L S G => li S G fun items Keep G1 => forW L f b Keep items S G1
def lWhile (c : LT) (b : LS) : LS := fun L S G => ∃ W : Nat → S2 → Gp → Prop, (∃ m, W m S G) ∧ ∀ m S G, W m S G →
  c S G fun k G1 => ∃ G1', Sub G1' G1 ∧ if k = true then b { L with nx := fun S' G' => ∃ m' G0, m' < m ∧ Sub G0 G' ∧ W m' S' G0, ct := fun S' G' => ∃ m' G0, m' < m ∧ Sub G0 G' ∧ W m' S' G0, bk := L.nx } S G1' else L.nx S G1'
def lcW (Keep : Gp → Prop) (f : T → S2 → Option S2) (vs : List Nat) (tt : LT) (te : LE) (Fin : List T → Gp → Prop) (S : S2) : List T → List T → Gp → Prop
  | [], acc, G => Keep G ∧ Fin acc G
  | t :: r, acc, G => Keep G ∧ match f t (wipe2 S vs) with
    | some S2 => tt S2 G fun b G1 => if b = true then te S2 G1 fun y G2 => acc.length < sizeLine ∧ ∃ G0, Sub G0 G2 ∧ lcW Keep f vs tt te Fin S r (acc ++ [y]) G0 else ∃ G0, Sub G0 G1 ∧ lcW Keep f vs tt te Fin S r acc G0
    | none => False
def lLc (li : LI) (f : T → S2 → Option S2) (vs : List Nat) (tt : LT) (te : LE) : LE := fun S G Φ => li S G fun items Keep G1 =>
  lcW Keep f vs tt te (fun acc G' => ∀ p, G' p = none → Φ (.ref p) (gup G' p (.lst acc))) S items [] G1
def dcW (Keep : Gp → Prop) (f : T → S2 → Option S2) (vs : List Nat) (tt : LT) (tk tv : LE) (Fin : List (T × T) → Gp → Prop) (S : S2) : List T → List (T × T) → Gp → Prop
  | [], acc, G => Keep G ∧ Fin acc G
  | t :: r, acc, G => Keep G ∧ match f t (wipe2 S vs) with
    | some S2 => tt S2 G fun b G1 => if b = true then tk S2 G1 fun y G2 => tv S2 G2 fun z G3 => acc.length < sizeLine ∧ (keyT y).isSome = true ∧ ∃ G0, Sub G0 G3 ∧ dcW Keep f vs tt tk tv Fin S r (dput acc y z) G0 else ∃ G0, Sub G0 G1 ∧ dcW Keep f vs tt tk tv Fin S r acc G0
    | none => False
def lDc (li : LI) (f : T → S2 → Option S2) (vs : List Nat) (tt : LT) (tk tv : LE) : LE := fun S G Φ => li S G fun items Keep G1 =>
  dcW Keep f vs tt tk tv (fun acc G' => ∀ p, G' p = none → Φ (.ref p) (gup G' p (.dic acc))) S items [] G1
def lYes : LT := fun _ G Φ => Φ true G
def Ets (en : En) (X : Cx) (ifs : List Expr) (t : LT) : Prop := PTs X ifs (lowT X.K en t)

section
variable {X : Cx} {a b c e o i elt tg iter : Expr} {es : List Expr} {st : Stmt} {ss ss2 : List Stmt} {la lb lo li lk lv : LE} {l : LA} {tl : LT} {pos p2 : Pos} {ls ms : LS} {w : LI} {f : T → S2 → Option S2} {vs : List Nat}
theorem PI.weak {t t' : TI} (h : PI X tg e t) (w : ∀ σ H Q, t' σ H Q → t σ H Q) : PI X tg e t' := ⟨fun pins s σ H Q I q => h.run pins s σ H Q I (w σ H Q q)⟩
theorem PTs.weak {ifs : List Expr} {t t' : TT} (h : PTs X ifs t) (w : ∀ σ H Q, t' σ H Q → t σ H Q) : PTs X ifs t' := ⟨fun pins s σ H Q I q => h.run pins s σ H Q I (w σ H Q q)⟩
theorem ts_nil : Ets en X [] lYes := PTs.weak pts_nil fun σ H Q ⟨S, G, Φ, s, g, q, k⟩ => k true G H q g (Step.refl H G)
theorem ts_one (h : Et en X c tl) : Ets en X [c] tl := pts_one h

theorem s_while (hp : PassesOwn (model X.prog X.w) X.A X.env X.xe) (hc : Et en X c tl) (hb : Ess en X ss ls) : Es en X (.While c ss [] pos) (lWhile tl ls) := by
  refine PS.weak (ps_while hp hc hb) fun D σ H ⟨S, G, L, s, g, ⟨W, ⟨m0, w0⟩, hW⟩, ends⟩ => ?_
  refine ⟨fun m σ' H' => ∃ S' G', SRel X.K H' σ' S' ∧ HRel X.K en H' G' ∧ Step H G H' G' ∧ W m S' G', ⟨m0, S, G, s, g, Step.refl H G, w0⟩, ?_⟩
  rintro m σ1 H1 ⟨S1, G1, s1, g1, t1, w1⟩
  refine ⟨S1, G1, _, s1, g1, hW m S1 G1 w1, fun k G2 H2 q2 g2 t2 => ?_⟩
  obtain ⟨G2', sb2, q2⟩ := q2
  replace g2 := g2.sub sb2
  replace t2 := t2.sub sb2
  clear sb2 G2
  revert G2'
  intro G2 q2 g2 t2
  cases k with
  | true =>
    refine ⟨fun σ' H' => ∃ m', m' < m ∧ ∃ S' G', SRel X.K H' σ' S' ∧ HRel X.K en H' G' ∧ Step H G H' G' ∧ W m' S' G', fun σ' H' ⟨m', hm, r⟩ => ⟨m', hm, r⟩, ?_⟩
    have t12 := t1.trans t2
    refine ⟨S1, G2, _, s1.stay (t2.stay g1), g2, q2, ⟨fun S3 G3 σ3 H3 q3 s3 g3 t3 => ?_, (ends.step t12).rt, fun S3 G3 σ3 H3 q3 s3 g3 t3 => (ends.step t12).nx S3 G3 σ3 H3 q3 s3 g3 t3, fun S3 G3 σ3 H3 q3 s3 g3 t3 => ?_⟩⟩
    · obtain ⟨m', G0, hm, sb, w3⟩ := q3
      exact ⟨m', hm, S3, G0, s3, g3.sub sb, (t12.trans t3).sub sb, w3⟩
    · obtain ⟨m', G0, hm, sb, w3⟩ := q3
      exact ⟨m', hm, S3, G0, s3, g3.sub sb, (t12.trans t3).sub sb, w3⟩
  | false => exact ends.nx S1 G2 σ1 H2 q2 (s1.stay (t2.stay g1)) g2 (t1.trans t2)
theorem s_for (hp : PassesOwn (model X.prog X.w) X.A X.env X.xe) (hc : X.calm = true) (hi : Ei en X tg iter w) (hg : Eg X tg f vs) (hb : Ess en X ss ls)
    (hs : ∀ x, foldedSetIterable iter X.env x = pure x := by intro _; rfl) : Es en X (.For tg iter ss [] pos) (lFor w f ls) := by
  refine PS.weak (ps_for hp hc hi hg hb hs) fun D σ H ⟨S, G, L, s, g, q, ends⟩ => ?_
  refine ⟨S, G, _, s, g, q, fun items Keep G1 H1 J kh q1 g1 s1 ok kh1 => ?_⟩
  refine ⟨fun i m σ' H' => m = items.length - i ∧ i ≤ items.length ∧ kh H' ∧ ∃ S' G', SRel X.K H' σ' S' ∧ HRel X.K en H' G' ∧ Step H G H' G' ∧ forW L f ls Keep (items.drop i) S' G',
    ⟨items.length, rfl, Nat.zero_le _, kh1, S, G1, s.stay (s1.stay g), g1, s1, q1⟩, ?_⟩
  rintro i m σ2 H2 ⟨rfl, hi, kh2, S2, G2, s2, g2, t2, q2⟩
  by_cases hlt : i < items.length
  · rw [List.drop_eq_getElem_cons hlt] at q2
    obtain ⟨kp, q2⟩ := q2
    refine .inr ⟨ok.go i H2 G2 g2 kp kh2 hlt, fun σ' H' => ∃ m', m' < items.length - i ∧ (m' = items.length - (i + 1) ∧ i + 1 ≤ items.length ∧ kh H' ∧ ∃ S' G', SRel X.K H' σ' S' ∧ HRel X.K en H' G' ∧ Step H G H' G' ∧ forW L f ls Keep (items.drop (i + 1)) S' G'), fun σ' H' h => h, fun x H3 y => ?_⟩
    obtain ⟨t, et, rt, g3, t3⟩ := ok.yld i H2 G2 x H3 g2 kp kh2 y hlt
    rw [List.getElem?_eq_getElem hlt] at et
    cases et
    split at q2
    · rename_i S3 e3
      have st := t3.stay g2
      refine ⟨_, S2, S3, rt, s2.stay st, e3, fun σ3 s3 _ => ?_⟩
      have t23 := t2.trans t3
      have again : ∀ S4 G4 σ4 H4, (∃ G0, Sub G0 G4 ∧ forW L f ls Keep (items.drop (i + 1)) S4 G0) → SRel X.K H4 σ4 S4 → HRel X.K en H4 G4 → Step H3 G2 H4 G4 →
          ∃ m', m' < items.length - i ∧ (m' = items.length - (i + 1) ∧ i + 1 ≤ items.length ∧ kh H4 ∧ ∃ S' G', SRel X.K H4 σ4 S' ∧ HRel X.K en H4 G' ∧ Step H G H4 G' ∧ forW L f ls Keep (items.drop (i + 1)) S' G') :=
        fun S4 G4 σ4 H4 ⟨G0, sb, q4⟩ s4 g4 t4 => ⟨_, by omega, rfl, hlt, ok.stab _ _ (t4.stay g3) (ok.stab _ _ st kh2), S4, G0, s4, g4.sub sb, (t23.trans t4).sub sb, q4⟩
      exact ⟨S3, G2, _, s3, g3, q2, ⟨again, (ends.step t23).rt, fun S4 G4 σ4 H4 q4 s4 g4 t4 => (ends.step t23).nx S4 G4 σ4 H4 q4 s4 g4 t4, again⟩⟩
    · exact q2.elim
  · have e : i = items.length := by omega
    subst e
    rw [List.drop_length] at q2
    exact .inl ⟨ok.stop _ H2 G2 g2 q2.1 kh2 (Nat.le_refl _), ends.nx S2 G2 σ2 H2 q2.2 s2 g2 t2⟩
/-- the reading of a list comprehension's loop -/
theorem low_lc {K : Fr0} {tt : LT} {te : LE} : ∀ σ H Q, low K en (lLc w f vs tt te) σ H Q → tLc (lowI K en w) (lowN K f vs) (lowT K en tt) (low K en te) vs σ H Q := by
  intro σ H Q ⟨S, G, Φ, s, g, q, k⟩
  refine ⟨S, G, _, s, g, q, fun items Keep G1 H1 J kh q1 g1 s1 ok kh1 D hD => ?_⟩
  have hD0 : H D = none := by
    cases e : H D with
    | none => rfl
    | some u =>
      obtain ⟨u', e'⟩ := s1.al D u e
      rw [hD] at e'
      cases e'
  have hen : ∀ e ∈ en, e.1 D = none := by
    intro e he
    cases z : e.1 D with
    | none => rfl
    | some u =>
      obtain ⟨u', e'⟩ := (g.hist e he).al D u z
      rw [hD0] at e'
      cases e'
  obtain ⟨g1', t1', st1'⟩ := g1.laid (ho := .lst []) hD
  have no1 : ¬ Own (L2.upd H1 D (.lst [])) G1 D := fun z => not_own_new g1 hD ((own_upd (not_own_new g1 hD)).mp z)
  refine ⟨fun i m H' => m = items.length - i ∧ i ≤ items.length ∧ kh H' ∧ ∃ acc accT G', H' D = some (.lst acc) ∧ RelL K H' acc accT ∧ HRel K en H' G' ∧ ¬ Own H' G' D ∧ Step H G H' G' ∧
      lcW Keep f vs tt te (fun acc G' => ∀ p, G' p = none → Φ (.ref p) (gup G' p (.lst acc))) S (items.drop i) accT G',
    ⟨items.length, rfl, Nat.zero_le _, ok.stab _ _ st1' kh1, [], [], G1, upd_same, .nil, g1', no1, s1.trans t1', q1⟩, ?_⟩
  rintro i m H2 ⟨rfl, hi, kh2, acc, accT, G2, hacc, racc, g2, no2, t2, q2⟩
  by_cases hlt : i < items.length
  · rw [List.drop_eq_getElem_cons hlt] at q2
    obtain ⟨kp, q2⟩ := q2
    refine .inr ⟨ok.go i H2 G2 g2 kp kh2 hlt, fun H' => ∃ m', m' < items.length - i ∧ (m' = items.length - (i + 1) ∧ i + 1 ≤ items.length ∧ kh H' ∧ ∃ acc accT G', H' D = some (.lst acc) ∧ RelL K H' acc accT ∧ HRel K en H' G' ∧ ¬ Own H' G' D ∧ Step H G H' G' ∧
      lcW Keep f vs tt te (fun acc G' => ∀ p, G' p = none → Φ (.ref p) (gup G' p (.lst acc))) S (items.drop (i + 1)) accT G'), fun H' h => h, fun x H3 y => ?_⟩
    obtain ⟨t, et, rt, g3, t3⟩ := ok.yld i H2 G2 x H3 g2 kp kh2 y hlt
    rw [List.getElem?_eq_getElem hlt] at et
    cases et
    obtain ⟨hacc3, no3⟩ := t3.fr D _ hacc no2
    have st3 := t3.stay g2
    have t23 := t2.trans t3
    split at q2
    · rename_i S3 e3
      refine ⟨_, wipe2 S vs, S3, rt, ((s.stay (t23.stay g)).wipe vs), e3, fun σ3 s3 hk3 => ⟨?_, ?_⟩⟩
      · have e1 := hk3 vs (fun _ h => h)
        rw [e1]
        exact wipe_wipe σ vs
      · refine ⟨S3, G2, _, s3, g3, q2, fun bb G4 H4 q4 g4 t4 => ?_⟩
        obtain ⟨hacc4, no4⟩ := t4.fr D _ hacc3 no3
        have st4 := t4.stay g3
        have t24 := t23.trans t4
        have kh4 := ok.stab _ _ st4 (ok.stab _ _ st3 kh2)
        cases bb with
        | true =>
          have q4 : te S3 G4 fun y G2 => accT.length < sizeLine ∧ ∃ G0, Sub G0 G2 ∧ lcW Keep f vs tt te (fun acc G' => ∀ p, G' p = none → Φ (.ref p) (gup G' p (.lst acc))) S (items.drop (i + 1)) (accT ++ [y]) G0 := q4
          refine ⟨S3, G4, _, s3.stay st4, g4, q4, fun ty G5 vy H5 q5 r5 g5 t5 => ?_⟩
          obtain ⟨hacc5, no5⟩ := t5.fr D _ hacc4 no4
          have st5 := t5.stay g4
          have racc5 := ((racc.stay st3).stay st4).stay st5
          obtain ⟨g6, st6⟩ := g5.under (ho := .lst (acc ++ [vy])) no5 hacc5 rfl hen
          obtain ⟨q5a, G0, sb, q5⟩ := q5
          refine ⟨acc, hacc5, by rw [racc.length]; exact q5a, _, by omega, rfl, hlt, ok.stab _ _ st6 (ok.stab _ _ st5 kh4), acc ++ [vy], accT ++ [ty], G0, upd_same, (racc5.app (.cons r5 .nil)).stay st6, g6.sub sb, fun z => no5 ((own_upd no5).mp (own_sub sb z)), ((t24.trans t5).under hD0 no5).sub sb, q5⟩
        | false =>
          obtain ⟨G0, sb, q4⟩ := (show ∃ G0, Sub G0 G4 ∧ lcW Keep f vs tt te (fun acc G' => ∀ p, G' p = none → Φ (.ref p) (gup G' p (.lst acc))) S (items.drop (i + 1)) accT G0 from q4)
          exact ⟨_, by omega, rfl, hlt, kh4, acc, accT, G0, hacc4, (racc.stay st3).stay st4, g4.sub sb, fun z => no4 (own_sub sb z), t24.sub sb, q4⟩
    · exact q2.elim
  · have e : i = items.length := by omega
    subst e
    rw [List.drop_length] at q2
    have gD : G2 D = none := by
      cases z : G2 D with
      | none => rfl
      | some u => exact absurd (.inl ⟨u, z⟩) no2
    refine .inl ⟨ok.stop _ H2 G2 g2 q2.1 kh2 (Nat.le_refl _), k _ _ _ _ (q2.2 D gD) (.ref D) (g2.adopt no2 (fun n z => by cases z) ⟨acc, hacc, racc⟩ hen) (t2.adopt hD0 (fun n z => by cases z))⟩
theorem low_dc {K : Fr0} {tt : LT} {tk tv : LE} : ∀ σ H Q, low K en (lDc w f vs tt tk tv) σ H Q → tDc (lowI K en w) (lowN K f vs) (lowT K en tt) (low K en tk) (low K en tv) vs σ H Q := by
  intro σ H Q ⟨S, G, Φ, s, g, q, k⟩
  refine ⟨S, G, _, s, g, q, fun items Keep G1 H1 J kh q1 g1 s1 ok kh1 D hD => ?_⟩
  have hD0 : H D = none := by
    cases e : H D with
    | none => rfl
    | some u =>
      obtain ⟨u', e'⟩ := s1.al D u e
      rw [hD] at e'
      cases e'
  have hen : ∀ e ∈ en, e.1 D = none := by
    intro e he
    cases z : e.1 D with
    | none => rfl
    | some u =>
      obtain ⟨u', e'⟩ := (g.hist e he).al D u z
      rw [hD0] at e'
      cases e'
  obtain ⟨g1', t1', st1'⟩ := g1.laid (ho := .dK []) hD
  have no1 : ¬ Own (L2.upd H1 D (.dK [])) G1 D := fun z => not_own_new g1 hD ((own_upd (not_own_new g1 hD)).mp z)
  refine ⟨fun i m H' => m = items.length - i ∧ i ≤ items.length ∧ kh H' ∧ ∃ acc accT G', H' D = some (.dK acc) ∧ RelD K H' acc accT ∧ HRel K en H' G' ∧ ¬ Own H' G' D ∧ Step H G H' G' ∧
      dcW Keep f vs tt tk tv (fun acc G' => ∀ p, G' p = none → Φ (.ref p) (gup G' p (.dic acc))) S (items.drop i) accT G',
    ⟨items.length, rfl, Nat.zero_le _, ok.stab _ _ st1' kh1, [], [], G1, upd_same, .nil, g1', no1, s1.trans t1', q1⟩, ?_⟩
  rintro i m H2 ⟨rfl, hi, kh2, acc, accT, G2, hacc, racc, g2, no2, t2, q2⟩
  by_cases hlt : i < items.length
  · rw [List.drop_eq_getElem_cons hlt] at q2
    obtain ⟨kp, q2⟩ := q2
    refine .inr ⟨ok.go i H2 G2 g2 kp kh2 hlt, fun H' => ∃ m', m' < items.length - i ∧ (m' = items.length - (i + 1) ∧ i + 1 ≤ items.length ∧ kh H' ∧ ∃ acc accT G', H' D = some (.dK acc) ∧ RelD K H' acc accT ∧ HRel K en H' G' ∧ ¬ Own H' G' D ∧ Step H G H' G' ∧
      dcW Keep f vs tt tk tv (fun acc G' => ∀ p, G' p = none → Φ (.ref p) (gup G' p (.dic acc))) S (items.drop (i + 1)) accT G'), fun H' h => h, fun x H3 y => ?_⟩
    obtain ⟨t, et, rt, g3, t3⟩ := ok.yld i H2 G2 x H3 g2 kp kh2 y hlt
    rw [List.getElem?_eq_getElem hlt] at et
    cases et
    obtain ⟨hacc3, no3⟩ := t3.fr D _ hacc no2
    have st3 := t3.stay g2
    have t23 := t2.trans t3
    split at q2
    · rename_i S3 e3
      refine ⟨_, wipe2 S vs, S3, rt, ((s.stay (t23.stay g)).wipe vs), e3, fun σ3 s3 hk3 => ⟨?_, ?_⟩⟩
      · have e1 := hk3 vs (fun _ h => h)
        rw [e1]
        exact wipe_wipe σ vs
      · refine ⟨S3, G2, _, s3, g3, q2, fun bb G4 H4 q4 g4 t4 => ?_⟩
        obtain ⟨hacc4, no4⟩ := t4.fr D _ hacc3 no3
        have st4 := t4.stay g3
        have t24 := t23.trans t4
        have kh4 := ok.stab _ _ st4 (ok.stab _ _ st3 kh2)
        cases bb with
        | true =>
          have q4 : tk S3 G4 fun y G2 => tv S3 G2 fun z G3 => accT.length < sizeLine ∧ (keyT y).isSome = true ∧ ∃ G0, Sub G0 G3 ∧ dcW Keep f vs tt tk tv (fun acc G' => ∀ p, G' p = none → Φ (.ref p) (gup G' p (.dic acc))) S (items.drop (i + 1)) (dput accT y z) G0 := q4
          refine ⟨S3, G4, _, s3.stay st4, g4, q4, fun ty G5 vy H5 q5 r5 g5 t5 => ?_⟩
          obtain ⟨hacc5, no5⟩ := t5.fr D _ hacc4 no4
          have st5 := t5.stay g4
          refine ⟨S3, G5, _, (s3.stay st4).stay st5, g5, q5, fun tz G6 vz H6 q6 r6 g6 t6 => ?_⟩
          obtain ⟨hacc6, no6⟩ := t6.fr D _ hacc5 no5
          have st6 := t6.stay g5
          have racc6 := (((racc.stay st3).stay st4).stay st5).stay st6
          obtain ⟨hl, hk, G0, sb, q6⟩ := q6
          obtain ⟨k0, ek⟩ := Option.isSome_iff_exists.mp hk
          have eu := keyT_kT ek
          subst eu
          obtain ⟨g7, st7⟩ := g6.under (ho := .dK (putK acc k0 vz)) no6 hacc6 rfl hen
          refine ⟨acc, k0, r5.key, hacc6, by rw [racc.length]; exact hl, _, by omega, rfl, hlt, ok.stab _ _ st7 (ok.stab _ _ st6 (ok.stab _ _ st5 kh4)), putK acc k0 vz, dput accT (kT k0) tz, G0, upd_same, (racc6.put r6).stay st7, g7.sub sb, fun z => no6 ((own_upd no6).mp (own_sub sb z)), (((t24.trans t5).trans t6).under hD0 no6).sub sb, q6⟩
        | false =>
          obtain ⟨G0, sb, q4⟩ := (show ∃ G0, Sub G0 G4 ∧ dcW Keep f vs tt tk tv (fun acc G' => ∀ p, G' p = none → Φ (.ref p) (gup G' p (.dic acc))) S (items.drop (i + 1)) accT G0 from q4)
          exact ⟨_, by omega, rfl, hlt, kh4, acc, accT, G0, hacc4, (racc.stay st3).stay st4, g4.sub sb, fun z => no4 (own_sub sb z), t24.sub sb, q4⟩
    · exact q2.elim
  · have e : i = items.length := by omega
    subst e
    rw [List.drop_length] at q2
    have gD : G2 D = none := by
      cases z : G2 D with
      | none => rfl
      | some u => exact absurd (.inl ⟨u, z⟩) no2
    refine .inl ⟨ok.stop _ H2 G2 g2 q2.1 kh2 (Nat.le_refl _), k _ _ _ _ (q2.2 D gD) (.ref D) (g2.adopt no2 (fun n z => by cases z) ⟨acc, hacc, racc⟩ hen) (t2.adopt hD0 (fun n z => by cases z))⟩
end
end Dv
namespace Dv
open PySem L2 PyProof.Rows RZ
section
variable {X : Cx} {a b c e o i elt tg iter : Expr} {es : List Expr} {st : Stmt} {la lb : LE} {l : LA} {pos p p2 apos cpos tpos : Pos} {ls : LS} {elts : List Expr} {kk : Nat}

/-! ### a value that is walked -/
abbrev RIT := T → Gp → (List T → (Gp → Prop) → Gp → Prop) → Prop
def itT : RIT
  | .tup ts, G, Ψ => Ψ ts (fun _ => True) G
  | .str z, G, Ψ => Ψ (z.cps.toList.map fun c => T.str ⟨#[c]⟩) (fun _ => True) G
  | .ref a, G, Ψ => match G a with
    | some (.lst xs) => Ψ xs (fun G' => G' a = some (.lst xs)) G
    | some (.fdic ob raw kvs) => Ψ (kvs.map (·.1)) (fun G' => G' a = some (.fdic ob raw kvs)) G
    | _ => False
  | _, _, _ => False
def lIt (la : LE) : LI := fun S G Ψ => la S G fun t G1 => itT t G1 Ψ
theorem ok_list {K : Fr0} {en : En} {a : Addr} {xs : List T} : ItOk K en (Itl K a) xs (fun G' => G' a = some (.lst xs)) (fun _ => True) where
  stab := fun _ _ _ h => h
  go := fun i H G g kp _ hi => by
    obtain ⟨vs, h1, r⟩ := g.obj a _ kp
    obtain ⟨v, h2, _⟩ := r.get (List.getElem?_eq_getElem hi)
    exact ⟨vs, v, SqL.of h1, h2⟩
  stop := fun i H G g kp _ hi => by
    obtain ⟨vs, h1, r⟩ := g.obj a _ kp
    exact ⟨vs, SqL.of h1, by rw [r.length]; exact hi⟩
  yld := fun i H G x H' g kp _ y hi => by
    obtain ⟨e, y⟩ := y
    subst e
    obtain ⟨vs, h1, r⟩ := g.obj a _ kp
    obtain ⟨t, h2, h3⟩ := r.getV (y vs (SqL.of h1))
    exact ⟨t, h2, h3, g, Step.refl _ _⟩
theorem ok_tup {K : Fr0} {en : En} {a : Addr} {vs : List V} {xs : List T} : ItOk K en (Itt K a) xs (fun _ => True) (fun H => SqT K H a vs ∧ RelL K H vs xs) where
  stab := fun H H' st h => ⟨st.1 _ _ h.1, h.2.stay st⟩
  go := fun i H G g _ kh hi => by
    obtain ⟨h1, r⟩ := kh
    obtain ⟨v, h2, _⟩ := r.get (List.getElem?_eq_getElem hi)
    exact ⟨vs, v, h1, h2⟩
  stop := fun i H G g _ kh hi => ⟨vs, kh.1, by rw [kh.2.length]; exact hi⟩
  yld := fun i H G x H' g _ kh y hi => by
    obtain ⟨e, y⟩ := y
    subst e
    obtain ⟨t, h2, h3⟩ := kh.2.getV (y vs kh.1)
    exact ⟨t, h2, h3, g, Step.refl _ _⟩
theorem ok_str {K : Fr0} {en : En} {z : Str} : ItOk K en (Its z) (z.cps.toList.map fun c => T.str ⟨#[c]⟩) (fun _ => True) (fun _ => True) where
  stab := fun _ _ _ h => h
  go := fun i H G g _ _ hi => by
    show i < z.cps.size
    simpa using hi
  stop := fun i H G g _ _ hi => by
    show z.cps.size ≤ i
    simpa using hi
  yld := fun i H G x H' g _ _ y hi => by
    obtain ⟨e, c, h, ex⟩ := y
    subst e ex
    exact ⟨.str ⟨#[c]⟩, by rw [List.getElem?_map, Array.getElem?_toList, h]; rfl, .str _, g, Step.refl _ _⟩
theorem RelD.keys {K : Fr0} {H : Hp} : ∀ {vs : List (Key × V)} {ts : List (T × T)} {i : Nat} {k : Key} {v : V}, RelD K H vs ts → vs[i]? = some (k, v) → (ts.map (·.1))[i]? = some (kT k)
  | _, _, i, k, v, .nil, e => by simp at e
  | _, _, 0, k, v, .cons _ _, e => by
    simp at e
    obtain ⟨e1, _⟩ := e
    subst e1
    simp
  | _, _, i + 1, k, v, .cons _ r, e => by
    have := RelD.keys (i := i) (k := k) (v := v) r (by simpa using e)
    simpa using this
theorem kT_rel {K : Fr0} {H : Hp} : ∀ k : Key, Rel K H (kV k) (kT k)
  | .inl i => .int i
  | .inr x => .str x
theorem ok_keys {K : Fr0} {en : En} {d : Addr} {ob : Obj} {raw : List (Key × V)} {kvs : List (T × T)} : ItOk K en (Itk d ob raw) (kvs.map (·.1)) (fun G' => G' d = some (.fdic ob raw kvs)) (fun _ => True) where
  stab := fun _ _ _ h => h
  go := fun i H G g kp _ hi => by
    obtain ⟨h1, r⟩ := g.obj d _ kp
    exact ⟨h1, by rw [r.length]; simpa using hi⟩
  stop := fun i H G g kp _ hi => by
    obtain ⟨h1, r⟩ := g.obj d _ kp
    exact ⟨h1, by rw [r.length]; simpa using hi⟩
  yld := fun i H G x H' g kp _ y hi => by
    obtain ⟨e, k, v, h, ex⟩ := y
    subst e ex
    obtain ⟨h1, r⟩ := g.obj d _ kp
    exact ⟨kT k, r.keys h, kT_rel k, g, Step.refl _ _⟩
theorem iter_val {pins : List (Addr × Obj)} {s : Shared} {σ : L2.St} {H : Hp} {x : V} {v : Value} {R : It → Hp → Prop} {t : T} {G : Gp} {en : En} {Ψ : List T → (Gp → Prop) → Gp → Prop} (I : Inv X pins σ H s) (rv : RelV x v) (rt : Rel X.K H x t) (g : HRel X.K en H G) (q : itT t G Ψ)
    (k : ∀ items Keep J kh, Ψ items Keep G → ItOk X.K en J items Keep kh → kh H → R J H) : wpAny (model X.prog X.w) X.A (pyIter v) (PIE X pins σ tg R) X.xe s := by
  cases rt with
  | @tup pp xs ts hs rs =>
    cases rv
    obtain ⟨its, r1, pt, hz⟩ := I.tuple hs
    refine wpAny_pyIter_tuple (show s.heap.IsTuple pp its.toArray from pt) ?_
    exact pi_one (tk := s.toks) I _ (turn_tuple pp _) ⟨_, Heap.get?_push_size _ rfl, rfl, rfl⟩ (k _ _ _ _ q ok_tup ⟨hs, rs⟩)
  | str z =>
    obtain ⟨tk, rfl⟩ := rv
    have q' := k _ _ _ _ q ok_str True.intro
    cases ha : z.cps.all (· < 128)
    · exact wpAny_pyIter_wide ha (pi_one (tk := s.toks) I _ (turn_str _ z tk "str_iterator" (.inr rfl)) ⟨_, Heap.get?_push_size _ rfl, rfl, rfl⟩ q')
    · exact wpAny_pyIter_ascii ha (pi_one (tk := s.toks) I _ (turn_str _ z tk "str_ascii_iterator" (.inl rfl)) ⟨_, Heap.get?_push_size _ rfl, rfl, rfl⟩ q')
  | ref p =>
    cases rv
    simp only [itT] at q
    split at q
    · rename_i xs e
      obtain ⟨vs, h1, r1⟩ := g.obj _ _ e
      obtain ⟨its, r2, pl, hz⟩ := I.list (SqL.of h1)
      refine wpAny_pyIter_list pl.isList ?_
      exact pi_one (tk := s.toks) I _ (turn_list p _) ⟨_, Heap.get?_push_size _ rfl, rfl, rfl⟩ (k _ _ _ _ q ok_list True.intro)
    · rename_i ob raw kvs e
      obtain ⟨h1, r1⟩ := g.obj _ _ e
      obtain ⟨hs, hgd, hx, es, ep, vs, hdt, hsz, kv, hm⟩ := I.frzK h1
      refine iter_keys hs hgd hx hdt (pi_one (tk := s.toks) I _ (turn_keys _ hdt) ⟨_, Heap.get?_push_size _ rfl, rfl, ?_⟩ (k _ _ _ _ q ok_keys True.intro))
      rw [hsz] <;> rfl
    · exact q.elim
  | _ => exact q.elim
theorem i_val (h : E en X e la) : Ei en X tg e (lIt la) := by
  refine ⟨fun pins s σ H R I ⟨S, G, Ψ, sr, g, q, k⟩ => ?_⟩
  refine thn (h.run pins s σ H (fun v H' => ∃ t G', itT t G' Ψ ∧ Rel X.K H' v t ∧ HRel X.K en H' G' ∧ Step H G H' G') I ⟨S, G, _, sr, g, q, fun t G' v H' a b c d => ⟨t, G', a, b, c, d⟩⟩) fun v s1 ⟨x, H1, I1, r1, t, G1, q1, rt, g1, s1'⟩ => ?_
  exact iter_val I1 r1 rt g1 q1 fun items Keep J kh a b c => k items Keep G1 H1 J kh a g1 s1' b c

/-! ### ranges -/
def lRg1 (l : LA) : LI := fun S G Ψ => l S G fun ts G1 => match ts with
  | [.int j] => (-(2 ^ 62) ≤ j ∧ j < 2 ^ 62) ∧ Ψ ((List.range j.toNat).map fun (i : Nat) => T.int (i : Int)) (fun _ => True) G1
  | _ => False
def lRg2 (l : LA) : LI := fun S G Ψ => l S G fun ts G1 => match ts with
  | [.int lo, .int hi] => (-(2 ^ 62) ≤ lo ∧ lo < 2 ^ 62 ∧ -(2 ^ 62) ≤ hi ∧ hi < 2 ^ 62) ∧ Ψ ((List.range (hi - lo).toNat).map fun (i : Nat) => T.int (lo + (i : Int))) (fun _ => True) G1
  | _ => False
theorem ok_rng {K : Fr0} {en : En} {lo : Int} {n : Nat} : ItOk K en (Itr lo n) ((List.range n).map fun (i : Nat) => T.int (lo + (i : Int))) (fun _ => True) (fun _ => True) where
  stab := fun _ _ _ h => h
  go := fun i H G g _ _ hi => by
    show i < n
    simpa using hi
  stop := fun i H G g _ _ hi => by
    show n ≤ i
    simpa using hi
  yld := fun i H G x H' g _ _ y hi => by
    obtain ⟨e, ex⟩ := y
    subst e ex
    refine ⟨.int (lo + i), ?_, .int _, g, Step.refl _ _⟩
    have hi' : i < n := by simpa using hi
    rw [List.getElem?_map, List.getElem?_range hi']
    rfl
theorem ok_rng0 {K : Fr0} {en : En} {n : Nat} : ItOk K en (Itr 0 n) ((List.range n).map fun (i : Nat) => T.int (i : Int)) (fun _ => True) (fun _ => True) := by
  have h := ok_rng (K := K) (en := en) (lo := 0) (n := n)
  have e : (fun (i : Nat) => T.int (0 + (i : Int))) = fun (i : Nat) => T.int (i : Int) := by
    funext i
    rw [Int.zero_add]
  rw [e] at h
  exact h
theorem i_rg1 (hg : Gl X "range") (hm : X.mg "range" = none) (ha : Ea en X [a] l) (hs : starEach [a] X.env = [(false, eval a X.env)] := by rfl) : Ei en X tg (.Call (.Name "range" p) [a] [] pos) (lRg1 l) := by
  refine PI.weak (pi_range1 hg hm ha hs) fun σ H R ⟨S, G, Ψ, s, g, q, k⟩ => ?_
  refine ⟨S, G, _, s, g, q, fun ts G1 vs H1 q1 r1 g1 s1 => ?_⟩
  split at q1
  · rename_i j
    cases r1 with
    | cons h1 h2 =>
      cases h1
      cases h2
      exact ⟨j, rfl, q1.1.1, q1.1.2, k _ _ _ _ _ _ q1.2 g1 s1 ok_rng0 True.intro⟩
  · exact q1.elim
theorem i_rg2 (hg : Gl X "range") (hm : X.mg "range" = none) (ha : Ea en X [a, b] l) (hs : starEach [a, b] X.env = [(false, eval a X.env), (false, eval b X.env)] := by rfl) (hs2 : starEach [b] X.env = [(false, eval b X.env)] := by rfl) :
    Ei en X tg (.Call (.Name "range" p) [a, b] [] pos) (lRg2 l) := by
  refine PI.weak (pi_range2 hg hm ha hs hs2) fun σ H R ⟨S, G, Ψ, s, g, q, k⟩ => ?_
  refine ⟨S, G, _, s, g, q, fun ts G1 vs H1 q1 r1 g1 s1 => ?_⟩
  split at q1
  · rename_i lo hi
    cases r1 with
    | cons h1 h2 =>
      cases h1
      cases h2 with
      | cons h2 h3 =>
        cases h2
        cases h3
        exact ⟨lo, hi, rfl, q1.1, k _ _ _ _ _ _ q1.2 g1 s1 ok_rng True.intro⟩
  · exact q1.elim

/-! ### enumerate, zip, of lists -/
def enumT (xs : List T) : List T := xs.zipIdx.map fun q => T.tup [.int (q.2 : Int), q.1]
def zipT (xs ys : List T) : List T := (xs.zip ys).map fun q => T.tup [q.1, q.2]
def lEnum (l : LA) : LI := fun S G Ψ => l S G fun ts G1 => match ts with
  | [.ref a] => (match G1 a with
    | some (.lst xs) => Ψ (enumT xs) (fun G' => G' a = some (.lst xs)) G1
    | _ => False)
  | _ => False
theorem ok_enum {K : Fr0} {en : En} {a : Addr} {xs : List T} : ItOk K en (Ite K a) (enumT xs) (fun G' => G' a = some (.lst xs)) (fun _ => True) where
  stab := fun _ _ _ h => h
  go := fun i H G g kp _ hi => by
    obtain ⟨vs, h1, r⟩ := g.obj a _ kp
    have hi' : i < xs.length := by simpa [enumT] using hi
    obtain ⟨v, h2, _⟩ := r.get (List.getElem?_eq_getElem hi')
    exact ⟨vs, v, SqL.of h1, h2⟩
  stop := fun i H G g kp _ hi => by
    obtain ⟨vs, h1, r⟩ := g.obj a _ kp
    exact ⟨vs, SqL.of h1, by rw [r.length]; simpa [enumT] using hi⟩
  yld := fun i H G x H' g kp _ y hi => by
    obtain ⟨p, v, ex, hp, eH, y⟩ := y
    subst ex eH
    obtain ⟨vs, h1, r⟩ := g.obj a _ kp
    obtain ⟨t, h2, h3⟩ := r.getV (y vs (SqL.of h1))
    obtain ⟨r2, g2, s2⟩ := tup_laid g hp (.cons (.int (i : Int)) (.cons h3 .nil))
    refine ⟨_, ?_, r2, g2, s2⟩
    unfold enumT
    rw [List.getElem?_map, List.getElem?_zipIdx, h2]
    simp
theorem i_enum (hg : Gl X "enumerate") (hm : X.mg "enumerate" = none) (ha : Ea en X [e] l) (hs : starEach [e] X.env = [(false, eval e X.env)] := by rfl) : Ei en X (.Tuple elts kk tpos) (.Call (.Name "enumerate" p) [e] [] pos) (lEnum l) := by
  refine PI.weak (pi_enum hg hm ha hs) fun σ H R ⟨S, G, Ψ, s, g, q, k⟩ => ?_
  refine ⟨S, G, _, s, g, q, fun ts G1 vs H1 q1 r1 g1 s1 => ?_⟩
  split at q1
  · rename_i a
    cases r1 with
    | cons h1 h2 =>
      cases h1
      cases h2
      split at q1
      · rename_i xs e
        obtain ⟨vs, h1, r⟩ := g1.obj _ _ e
        exact ⟨a, vs, rfl, SqL.of h1, k _ _ _ _ _ _ q1 g1 s1 ok_enum True.intro⟩
      · exact q1.elim
  · exact q1.elim
def lZip (l : LA) : LI := fun S G Ψ => l S G fun ts G1 => match ts with
  | [.ref a, .ref b] => (match G1 a, G1 b with
    | some (.lst xs), some (.lst ys) => Ψ (zipT xs ys) (fun G' => G' a = some (.lst xs) ∧ G' b = some (.lst ys)) G1
    | _, _ => False)
  | [.tup xs, .tup ys] => Ψ (zipT xs ys) (fun _ => True) G1
  | _ => False
theorem zipT_at {xs ys : List T} {i : Nat} {x y : T} (h1 : xs[i]? = some x) (h2 : ys[i]? = some y) : (zipT xs ys)[i]? = some (.tup [x, y]) := by
  unfold zipT
  rw [List.getElem?_map]
  have : (xs.zip ys)[i]? = some (x, y) := by rw [List.getElem?_zip_eq_some]; exact ⟨h1, h2⟩
  rw [this]
  rfl
theorem ok_zip {K : Fr0} {en : En} {a b : Addr} {xs ys : List T} : ItOk K en (Itz K a b) (zipT xs ys) (fun G' => G' a = some (.lst xs) ∧ G' b = some (.lst ys)) (fun _ => True) where
  stab := fun _ _ _ h => h
  go := fun i H G g kp _ hi => by
    obtain ⟨vs, h1, r⟩ := g.obj a _ kp.1
    obtain ⟨ws, h2, r2⟩ := g.obj b _ kp.2
    have hi' : i < xs.length ∧ i < ys.length := by simp [zipT] at hi; omega
    obtain ⟨v, h3, _⟩ := r.get (List.getElem?_eq_getElem hi'.1)
    obtain ⟨w, h4, _⟩ := r2.get (List.getElem?_eq_getElem hi'.2)
    exact ⟨vs, ws, v, w, SqL.of h1, SqL.of h2, h3, h4⟩
  stop := fun i H G g kp _ hi => by
    obtain ⟨vs, h1, r⟩ := g.obj a _ kp.1
    obtain ⟨ws, h2, r2⟩ := g.obj b _ kp.2
    refine ⟨vs, ws, SqL.of h1, SqL.of h2, ?_⟩
    rw [r.length, r2.length]
    simp [zipT] at hi
    omega
  yld := fun i H G x H' g kp _ y hi => by
    obtain ⟨p, v, w, ex, hp, eH, y1, y2⟩ := y
    subst ex eH
    obtain ⟨vs, h1, r⟩ := g.obj a _ kp.1
    obtain ⟨ws, h2, r2⟩ := g.obj b _ kp.2
    obtain ⟨t, h3, h4⟩ := r.getV (y1 vs (SqL.of h1))
    obtain ⟨u, h5, h6⟩ := r2.getV (y2 ws (SqL.of h2))
    obtain ⟨r3, g3, s3⟩ := tup_laid g hp (.cons h4 (.cons h6 .nil))
    exact ⟨_, zipT_at h3 h5, r3, g3, s3⟩
theorem ok_zipT {K : Fr0} {en : En} {a b : Addr} {vs ws : List V} {xs ys : List T} : ItOk K en (ItzT K a b) (zipT xs ys) (fun _ => True) (fun H => SqT K H a vs ∧ RelL K H vs xs ∧ SqT K H b ws ∧ RelL K H ws ys) where
  stab := fun H H' st h => ⟨st.1 _ _ h.1, h.2.1.stay st, st.1 _ _ h.2.2.1, h.2.2.2.stay st⟩
  go := fun i H G g _ kh hi => by
    obtain ⟨h1, r, h2, r2⟩ := kh
    have hi' : i < xs.length ∧ i < ys.length := by simp [zipT] at hi; omega
    obtain ⟨v, h3, _⟩ := r.get (List.getElem?_eq_getElem hi'.1)
    obtain ⟨w, h4, _⟩ := r2.get (List.getElem?_eq_getElem hi'.2)
    exact ⟨vs, ws, v, w, h1, h2, h3, h4⟩
  stop := fun i H G g _ kh hi => by
    obtain ⟨h1, r, h2, r2⟩ := kh
    refine ⟨vs, ws, h1, h2, ?_⟩
    rw [r.length, r2.length]
    simp [zipT] at hi
    omega
  yld := fun i H G x H' g _ kh y hi => by
    obtain ⟨p, v, w, ex, hp, eH, y1, y2⟩ := y
    subst ex eH
    obtain ⟨h1, r, h2, r2⟩ := kh
    obtain ⟨t, h3, h4⟩ := r.getV (y1 vs h1)
    obtain ⟨u, h5, h6⟩ := r2.getV (y2 ws h2)
    obtain ⟨r3, g3, s3⟩ := tup_laid g hp (.cons h4 (.cons h6 .nil))
    exact ⟨_, zipT_at h3 h5, r3, g3, s3⟩
theorem i_zip (hg : Gl X "zip") (hm : X.mg "zip" = none) (ha : Ea en X [a, b] l) (hs : starEach [a, b] X.env = (false, eval a X.env) :: starEach [b] X.env := by rfl) (hpl : (backTo pos (starEach [b] X.env)).any (·.1) = false := by rfl) :
    Ei en X (.Tuple elts kk tpos) (.Call (.Name "zip" p) [a, b] [] pos) (lZip l) := by
  refine PI.weak (pi_zipA hg hm ha hs hpl) fun σ H R ⟨S, G, Ψ, s, g, q, k⟩ => ?_
  refine ⟨S, G, _, s, g, q, fun ts G1 vs H1 q1 r1 g1 s1 => ?_⟩
  split at q1
  · rename_i a b
    cases r1 with
    | cons h1 h2 =>
      cases h1
      cases h2 with
      | cons h2 h3 =>
        cases h2
        cases h3
        split at q1
        · rename_i xs ys e1 e2
          obtain ⟨vs, h1, r⟩ := g1.obj _ _ e1
          obtain ⟨ws, h2, r2⟩ := g1.obj _ _ e2
          exact ⟨a, b, vs, ws, rfl, .inl ⟨SqL.of h1, SqL.of h2, k _ _ _ _ _ _ q1 g1 s1 ok_zip True.intro⟩⟩
        · exact q1.elim
  · cases r1 with
    | cons h1 h2 =>
      cases h2 with
      | cons h2 h3 =>
        cases h3
        cases h1 with
        | @tup p1 vs ts hs1 rs1 =>
          cases h2 with
          | @tup p2 ws us hs2 rs2 => exact ⟨p1, p2, vs, ws, rfl, .inr ⟨hs1, hs2, k _ _ _ _ _ _ q1 g1 s1 ok_zipT ⟨hs1, rs1, hs2, rs2⟩⟩⟩
  · exact q1.elim

/-! ### a dict is walked: it is locked meanwhile -/
def lLock (ls : LS) : LS := fun L S G => ∃ d, match G d with
    | some (.dic kvs) => ∀ ob raw, ls ⟨fun S' G' => G' d = some (.fdic ob raw kvs) ∧ L.nx S' (gup G' d (.dic kvs)), fun t G' => G' d = some (.fdic ob raw kvs) ∧ L.rt t (gup G' d (.dic kvs)),
        fun S' G' => G' d = some (.fdic ob raw kvs) ∧ L.bk S' (gup G' d (.dic kvs)), fun S' G' => G' d = some (.fdic ob raw kvs) ∧ L.ct S' (gup G' d (.dic kvs))⟩ S (gup G d (.fdic ob raw kvs))
    | _ => False
def lLockE (le : LE) : LE := fun S G Φ => ∃ d, match G d with
    | some (.dic kvs) => ∀ ob raw, le S (gup G d (.fdic ob raw kvs)) fun t G' => G' d = some (.fdic ob raw kvs) ∧ Φ t (gup G' d (.dic kvs))
    | _ => False
theorem unlock {K : Fr0} {en : En} {H : Hp} {G : Gp} {d : Addr} {ob : Obj} {raw : List (Key × V)} {kvs : List (T × T)} (g : HRel K en H G) (e : G d = some (.fdic ob raw kvs)) :
    H d = some (.frz ob (.dK raw)) ∧ HRel K en (L2.upd H d (.dK raw)) (gup G d (.dic kvs)) ∧ Step H G (L2.upd H d (.dK raw)) (gup G d (.dic kvs)) ∧ Stay K H (L2.upd H d (.dK raw)) := by
  obtain ⟨h1, r⟩ := g.obj d _ e
  obtain ⟨g2, s2, st⟩ := g.upd (a := d) (ho := .dK raw) (o := .dic kvs) (.inr ⟨_, e, fun n z => by cases z⟩) (fun n z => by cases z) ⟨raw, upd_same, r.stay (stayL g e (fun n z => by cases z))⟩
  exact ⟨h1, g2, s2, st⟩
theorem s_lock (h : Es en X st ls) : Es en X st (lLock ls) := by
  refine PS.weak (ps_lock h) fun D σ H ⟨S, G, L, s, g, q, ends⟩ => ?_
  simp only [lLock] at q
  obtain ⟨d, q⟩ := q
  · split at q
    · rename_i kvs e
      obtain ⟨raw, h1, r⟩ := g.obj d _ e
      refine ⟨d, .dK raw, h1, True.intro, fun ob => ?_⟩
      obtain ⟨g1, s1, st1⟩ := g.upd (a := d) (ho := .frz ob (.dK raw)) (o := .fdic ob raw kvs) (.inr ⟨_, e, fun n z => by cases z⟩) (fun n z => by cases z) ⟨upd_same, r.stay (stayL g e (fun n z => by cases z))⟩
      refine ⟨S, _, _, s.stay st1, g1, q ob raw, ⟨?_, ?_, ?_, ?_⟩⟩
      · intro S' G' σ' H' ⟨e', q'⟩ s' g' t'
        obtain ⟨h2, g2, s2, st2⟩ := unlock g' e'
        exact ⟨h2, ends.nx S' _ σ' _ q' (s'.stay st2) g2 ((s1.trans t').trans s2)⟩
      · intro t G' v H' ⟨e', q'⟩ r' g' t'
        obtain ⟨h2, g2, s2, st2⟩ := unlock g' e'
        exact ⟨h2, ends.rt t _ v _ q' (r'.stay st2) g2 ((s1.trans t').trans s2)⟩
      · intro S' G' σ' H' ⟨e', q'⟩ s' g' t'
        obtain ⟨h2, g2, s2, st2⟩ := unlock g' e'
        exact ⟨h2, ends.bk S' _ σ' _ q' (s'.stay st2) g2 ((s1.trans t').trans s2)⟩
      · intro S' G' σ' H' ⟨e', q'⟩ s' g' t'
        obtain ⟨h2, g2, s2, st2⟩ := unlock g' e'
        exact ⟨h2, ends.ct S' _ σ' _ q' (s'.stay st2) g2 ((s1.trans t').trans s2)⟩
    · exact q.elim
theorem e_lock (h : E en X e la) : E en X e (lLockE la) := by
  refine PE.weak (pe_lock h) fun σ H Q ⟨S, G, Φ, s, g, q, k⟩ => ?_
  simp only [lLockE] at q
  obtain ⟨d, q⟩ := q
  · split at q
    · rename_i kvs e
      obtain ⟨raw, h1, r⟩ := g.obj d _ e
      refine ⟨d, .dK raw, h1, True.intro, fun ob => ?_⟩
      obtain ⟨g1, s1, st1⟩ := g.upd (a := d) (ho := .frz ob (.dK raw)) (o := .fdic ob raw kvs) (.inr ⟨_, e, fun n z => by cases z⟩) (fun n z => by cases z) ⟨upd_same, r.stay (stayL g e (fun n z => by cases z))⟩
      refine ⟨S, _, _, s.stay st1, g1, q ob raw, fun t G' v H' ⟨e', q'⟩ r' g' t' => ?_⟩
      obtain ⟨h2, g2, s2, st2⟩ := unlock g' e'
      exact ⟨h2, k t _ v _ q' (r'.stay st2) g2 ((s1.trans t').trans s2)⟩
    · exact q.elim
end
end Dv
namespace Dv
open PySem L2

/-! ### what a def promises, over deep values -/
abbrev XK2 := Addr → List (Str × T) → Gp → Prop
abbrev Sp2 := List T → Gp → QT → XK2 → Prop
def noX : XK2 := fun _ _ _ => False
/-- an exception of the class at C with its fields -/
def ERel (K : Fr0) (H : Hp) (cls : Value) (d : Option Addr) (C : Addr) (fs : List (Str × T)) : Prop := cls = .ref C ∧ ((d = none ∧ fs = []) ∨ ∃ dd raw, d = some dd ∧ H dd = some (.xd raw) ∧ RelF K H raw fs)
def lowX (K : Fr0) (en : En) (E2 : XK2) : XK := fun cls d H => ∃ C fs G, E2 C fs G ∧ ERel K H cls d C fs ∧ HRel K en H G
def lowSp (K : Fr0) (sp : Sp2) : Sp := fun vs H Q E => ∃ ts G Φ ΦE, RelL K H vs ts ∧ HRel K [] H G ∧ sp ts G Φ ΦE ∧ (∀ t G' v H', Φ t G' → Rel K H' v t → HRel K [] H' G' → Step H G H' G' → Q v H') ∧
  ∀ C fs G' H' cls d, ΦE C fs G' → ERel K H' cls d C fs → HRel K [] H' G' → Step H G H' G' → E cls d H'
theorem lowX_no {K : Fr0} {en : En} {cls : Value} {d : Option Addr} {H : Hp} : ¬ lowX K en noX cls d H := fun ⟨_, _, _, h, _⟩ => h.elim
theorem pass0X {X : Cx} {E : XK} : Passes CX0 X E := fun _ _ _ _ _ _ _ h => h.elim
theorem passN {X : Cx} {en : En} : Passes (L2.CX X.prog X.w) X (lowX X.K en noX) := fun _ _ _ _ _ _ _ h => by
  obtain ⟨_, _, _, _, _, _, _, _, _, _, _, _, z⟩ := h
  exact (lowX_no z).elim
def lCall (sp : Sp2) (dts : List T) (E2 : XK2) (l : LA) : LE := fun S G Φ => l S G fun ts G1 => sp (ts ++ dts) G1 Φ E2
def lCallK (sp : Sp2) (gT : List T → List T → List T) (E2 : XK2) (l lk : LA) : LE := fun S G Φ => l S G fun ts G1 => lk S G1 fun us G2 => sp (gT ts us) G2 Φ E2
def lMeth (C : Addr) (m : Str) (sp : Sp2) (dts : List T) (E2 : XK2) (la : LE) (l : LA) : LE := fun S G Φ => la S G fun t G1 => match t with
  | .ref a => (match G1 a with
    | some (.ins C' fs) => C' = C ∧ fs.lookup m = none ∧ l S G1 fun ts G2 => sp (.ref a :: (ts ++ dts)) G2 Φ E2
    | _ => False)
  | _ => False
def lMake (C : Addr) (sp : Sp2) (dts : List T) (E2 : XK2) (l : LA) : LE := fun S G Φ => l S G fun ts G1 => ∀ x, G1 x = none → sp (.ref x :: (ts ++ dts)) (gup G1 x (.ins C [])) (fun t G2 => t = .non ∧ Φ (.ref x) G2) E2
/-- o.f -/
def lFld (C : Addr) (f : Str) (la : LE) : LE := fun S G Φ => la S G fun t G1 => match t with
  | .ref a => (match G1 a with
    | some (.ins C' fs) => C' = C ∧ (match fs.lookup f with
      | some u => Φ u G1
      | none => False)
    | _ => False)
  | _ => False
def putT (f : Str) (v : T) : List (Str × T) → List (Str × T)
  | [] => [(f, v)]
  | p :: r => if p.1 = f then (f, v) :: r else p :: putT f v r
/-- o.f = v: the value first -/
def lFldS (C : Addr) (f : Str) (la lv : LE) : LS := fun L S G => lv S G fun v G1 => la S G1 fun t G2 => match t with
  | .ref a => (match G2 a with
    | some (.ins C' fs) => C' = C ∧ fs.length < 1000 ∧ L.nx S (gup G2 a (.ins C (putT f v fs)))
    | _ => False)
  | _ => False
theorem RelF.look {K : Fr0} {H : Hp} {f : Str} : ∀ {vs : List (Str × V)} {ts : List (Str × T)}, RelF K H vs ts → (ts.lookup f = none ∧ vs.lookup f = none) ∨ ∃ t v, ts.lookup f = some t ∧ vs.lookup f = some v ∧ Rel K H v t
  | _, _, .nil => .inl ⟨rfl, rfl⟩
  | _, _, .cons (k := j) (v := v) (t := t) (kvs := r) (ts := u) h rs => by
    by_cases e : f = j
    · subst e
      exact .inr ⟨t, v, by simp, by simp, h⟩
    · have e' : (f == j) = false := beq_eq_false_iff_ne.mpr e
      rcases RelF.look (f := f) rs with ⟨h1, h2⟩ | ⟨t', v', h1, h2, h3⟩
      · exact .inl ⟨by rw [List.lookup_cons, e']; exact h1, by rw [List.lookup_cons, e']; exact h2⟩
      · exact .inr ⟨t', v', by rw [List.lookup_cons, e']; exact h1, by rw [List.lookup_cons, e']; exact h2, h3⟩
theorem RelF.length {K : Fr0} {H : Hp} : ∀ {vs : List (Str × V)} {ts : List (Str × T)}, RelF K H vs ts → vs.length = ts.length
  | _, _, .nil => rfl
  | _, _, .cons _ r => by simp [RelF.length r]
theorem RelF.put {K : Fr0} {H : Hp} {f : Str} {v : V} {t : T} (h : Rel K H v t) : ∀ {vs : List (Str × V)} {ts : List (Str × T)}, RelF K H vs ts → RelF K H (putF f v vs) (putT f t ts)
  | _, _, .nil => .cons h .nil
  | _, _, .cons (k := j) hr r => by
    unfold putF putT
    by_cases e : j = f
    · subst e
      rw [if_pos rfl, if_pos rfl]
      exact .cons h r
    · rw [if_neg e, if_neg e]
      exact .cons hr (RelF.put h r)

section
variable {X : Cx} {CX : CXT} {a b c e o : Expr} {es : List Expr} {la lb lv : LE} {l lk : LA} {pos p p2 apos cpos : Pos} {k : Nat} {f C : Addr} {fd : FuncData} {ps ks : List Str} {sp : Sp2} {dts : List T} {dvs : List V} {ds : List Value} {E2 : XK2} {x m : Str} {kws : List Keyword}
theorem low_call {K : Fr0} (hdt : ∀ H, RelL K H dvs dts) : ∀ σ H Q, low K en (lCall sp dts E2 l) σ H Q → tCall (lowSp K sp) dvs (lowX K en E2) (lowA K en l) σ H Q := by
  intro σ H Q ⟨S, G, Φ, s, g, q, kk⟩
  refine ⟨S, G, _, s, g, q, fun ts G1 vs H1 q1 r1 g1 s1 => ?_⟩
  refine ⟨ts ++ dts, G1, Φ, E2, r1.app (hdt H1), g1.nil, q1, fun t G' v H' a b c d => kk t G' v H' a b (g1.back c d) (s1.trans d), fun C fs G' H' cls d a b c d' => ⟨C, fs, G', a, b, g1.back c d'⟩⟩
theorem e_call (F : FnOk X.prog X.w X.K X.mg X.base CX k f fd ps (lowSp X.K sp)) (hr : Room k X.A) (hg : Gl X x) (hm : X.mg x = some (.ref f)) (hk : PySem.W.keepIn X.K (.ref f) = true) (hb : Binds X.K fd ps ds) (hd : Vals dvs ds) (hdt : ∀ H, RelL X.K H dvs dts) (hx : Passes CX X (lowX X.K en E2))
    (ha : Ea en X (e :: es) l) (hdb : (x == ("__debug__" : Str)) = false := by decide) (he : starEach (e :: es) X.env = (false, eval e X.env) :: starEach es X.env := by rfl) (hpl : (backTo pos (starEach es X.env)).any (·.1) = false := by rfl) :
    E en X (.Call (.Name x p) (e :: es) [] pos) (lCall sp dts E2 l) := PE.weak (pe_call F hr hg hm hk hb hd hx ha hdb he hpl) (low_call hdt)
theorem e_call0 (F : FnOk X.prog X.w X.K X.mg X.base CX k f fd ps (lowSp X.K sp)) (hr : Room k X.A) (hg : Gl X x) (hm : X.mg x = some (.ref f)) (hk : PySem.W.keepIn X.K (.ref f) = true) (hb : Binds X.K fd ps ds) (hd : Vals dvs ds) (hdt : ∀ H, RelL X.K H dvs dts) (hx : Passes CX X (lowX X.K en E2))
    (hdb : (x == ("__debug__" : Str)) = false := by decide) : E en X (.Call (.Name x p) [] [] pos) (lCall sp dts E2 lNil) :=
  PE.weak (pe_call0 F hr hg hm hk hb hd hx hdb) fun σ H Q ⟨S, G, Φ, s, g, q, kk⟩ =>
    ⟨[] ++ dts, G, Φ, E2, RelL.app .nil (hdt H), g.nil, q, fun t G' v H' a b c d => kk t G' v H' a b (g.back c d) d, fun C fs G' H' cls d a b c d' => ⟨C, fs, G', a, b, g.back c d'⟩⟩
/-! keywords -/
def Ek (en : En) (X : Cx) (kws : List Keyword) (l : LA) : Prop := PK X kws (lowA X.K en l)
theorem PK.weak {t t' : TA} (h : PK X kws t) (w : ∀ σ H Q, t' σ H Q → t σ H Q) : PK X kws t' := ⟨fun pos pins s σ H Q I q => h.run pos pins s σ H Q I (w σ H Q q)⟩
theorem k_nil : Ek en X [] lNil := PK.weak pk_nil fun σ H Q ⟨S, G, Φ, s, g, q, k⟩ => k [] G [] H q .nil g (Step.refl H G)
theorem k_cons {lr : LA} {nm : Option Str} {kp : Pos} (h : E en X a la) (hr : Ek en X kws lr) : Ek en X (⟨nm, a, kp⟩ :: kws) (lCons la lr) := by
  refine PK.weak (pk_cons h hr) fun σ H Q ⟨S, G, Φ, s, g, q, k⟩ => ?_
  refine ⟨S, G, _, s, g, q, fun t G1 v H1 q1 r1 g1 s1 => ?_⟩
  refine ⟨S, G1, _, s.stay (s1.stay g), g1, q1, fun ts G2 vs H2 q2 r2 g2 s2 => ?_⟩
  exact k (t :: ts) G2 (v :: vs) H2 q2 (.cons (r1.stay (s2.stay g1)) r2) g2 (s1.trans s2)
theorem low_callK {K : Fr0} {gV : List V → List V → List V} {gT : List T → List T → List T} (hgT : ∀ H vs ts ws us, RelL K H vs ts → RelL K H ws us → RelL K H (gV vs ws) (gT ts us)) :
    ∀ σ H Q, low K en (lCallK sp gT E2 l lk) σ H Q → tCallK (lowSp K sp) gV (lowX K en E2) (lowA K en l) (lowA K en lk) σ H Q := by
  intro σ H Q ⟨S, G, Φ, s, g, q, kk⟩
  refine ⟨S, G, _, s, g, q, fun ts G1 vs H1 q1 r1 g1 s1 => ?_⟩
  refine ⟨S, G1, _, s.stay (s1.stay g), g1, q1, fun us G2 ws H2 q2 r2 g2 s2 => ?_⟩
  refine ⟨gT ts us, G2, Φ, E2, hgT _ _ _ _ _ (r1.stay (s2.stay g1)) r2, g2.nil, q2, fun t G' v H' a b c d => kk t G' v H' a b (g2.back c d) ((s1.trans s2).trans d), fun C fs G' H' cls d a b c d' => ⟨C, fs, G', a, b, g2.back c d'⟩⟩
theorem e_callK {g : List Value → List Value → List Value} {gV : List V → List V → List V} {gT : List T → List T → List T} (F : FnOk X.prog X.w X.K X.mg X.base CX k f fd ps (lowSp X.K sp)) (hr : Room k X.A) (hg : Gl X x) (hm : X.mg x = some (.ref f)) (hk : PySem.W.keepIn X.K (.ref f) = true)
    (hb : KBinds X.K fd ps ks g gV) (hgT : ∀ H vs ts ws us, RelL X.K H vs ts → RelL X.K H ws us → RelL X.K H (gV vs ws) (gT ts us)) (hx : Passes CX X (lowX X.K en E2))
    (ha : Ea en X (e :: es) l) (hkw : Ek en X kws lk) (hall : (backToKw pos (keywordEach kws X.env)).all (·.1.isSome) = true := by rfl) (hks : (backToKw pos (keywordEach kws X.env)).filterMap (·.1) = ks := by rfl)
    (hdb : (x == ("__debug__" : Str)) = false := by decide) (he : starEach (e :: es) X.env = (false, eval e X.env) :: starEach es X.env := by rfl)
    (hpl : ((backTo pos (starEach (e :: es) X.env)).any (·.1) || (backToKw pos (keywordEach kws X.env)).any (·.1.isNone)) = false := by rfl) :
    E en X (.Call (.Name x p) (e :: es) kws pos) (lCallK sp gT E2 l lk) := PE.weak (pe_callK F hr hg hm hk hb hx ha hkw hall hks hdb he hpl) (low_callK hgT)
/-- keywords alone -/
theorem pe_callK0 {sp : Sp} {E : XK} {tk : TA} {g : List Value → List Value → List Value} {gV : List V → List V → List V} (F : FnOk X.prog X.w X.K X.mg X.base CX k f fd ps sp) (hr : Room k X.A) (hg : Gl X x) (hm : X.mg x = some (.ref f)) (hk : PySem.W.keepIn X.K (.ref f) = true) (hb : KBinds X.K fd ps ks g gV) (hx : Passes CX X E)
    (hkw : PK X kws tk) (hall : (backToKw pos (keywordEach kws X.env)).all (·.1.isSome) = true) (hks : (backToKw pos (keywordEach kws X.env)).filterMap (·.1) = ks)
    (hdb : (x == ("__debug__" : Str)) = false) (hpl : ((backTo pos (starEach [] X.env)).any (·.1) || (backToKw pos (keywordEach kws X.env)).any (·.1.isNone)) = false) :
    PE X (.Call (.Name x p) [] kws pos) (tCallK sp gV E tNil tk) := by
  refine ⟨fun pins s σ H Q I h => ?_⟩
  refine wpAny_Call_Name_kw (ld_glob I hg hm ?_ hdb)
  refine PySem.W.callWith_KW0 (h₀ := X.base) I.ok.mod.kin hk hall ?_ hpl
  refine thn (hkw.run pos pins s σ H _ I h) fun ws s2 ⟨zs, H2, I2, rz, q2⟩ => ⟨I2.kIn, ?_⟩
  rw [hks]
  exact run_fnk (us := []) F hr hb hx I2 .nil rz q2
theorem e_callK0 {g : List Value → List Value → List Value} {gV : List V → List V → List V} {gT : List T → List T → List T} (F : FnOk X.prog X.w X.K X.mg X.base CX k f fd ps (lowSp X.K sp)) (hr : Room k X.A) (hg : Gl X x) (hm : X.mg x = some (.ref f)) (hk : PySem.W.keepIn X.K (.ref f) = true)
    (hb : KBinds X.K fd ps ks g gV) (hgT : ∀ H vs ts ws us, RelL X.K H vs ts → RelL X.K H ws us → RelL X.K H (gV vs ws) (gT ts us)) (hx : Passes CX X (lowX X.K en E2))
    (hkw : Ek en X kws lk) (hall : (backToKw pos (keywordEach kws X.env)).all (·.1.isSome) = true := by rfl) (hks : (backToKw pos (keywordEach kws X.env)).filterMap (·.1) = ks := by rfl)
    (hdb : (x == ("__debug__" : Str)) = false := by decide) (hpl : ((backTo pos (starEach [] X.env)).any (·.1) || (backToKw pos (keywordEach kws X.env)).any (·.1.isNone)) = false := by rfl) :
    E en X (.Call (.Name x p) [] kws pos) (lCallK sp gT E2 lNil lk) :=
  PE.weak (pe_callK0 F hr hg hm hk hb hx hkw hall hks hdb hpl) fun σ H Q h => by
    obtain ⟨S, G, Φ, s, g, q, kk⟩ := low_callK (l := lNil) hgT σ H Q h
    exact kk [] G [] H q .nil g (Step.refl H G)
/-! methods, instances -/
theorem e_meth {pl : Sem Bool} (he : E en X o la) (c : Cls X.K C) (hm : Meth X.K C m f) (F : FnOk X.prog X.w X.K X.mg X.base CX k f fd ps (lowSp X.K sp)) (hr : Room k X.A) (hb : Binds X.K fd ps ds) (hd : Vals dvs ds) (hdt : ∀ H, RelL X.K H dvs dts) (hx : Passes CX X (lowX X.K en E2)) (ha : Ea en X (e :: es) l)
    (hst : starEach (e :: es) X.env = (false, eval e X.env) :: starEach es X.env := by rfl) (hpl : (backTo pos (starEach es X.env)).any (·.1) = false := by rfl)
    (ht : eval (.Call (.Attribute o m apos) (e :: es) [] pos) X.env = (do
      let ov ← eval o X.env
      standAt apos.atName
      let (f, first) ← holding [ov] (getMethod ov m pl)
      callWith pos f first (backTo pos (starEach (e :: es) X.env)) (backToKw pos (keywordEach [] X.env))) := by rfl) :
    E en X (.Call (.Attribute o m apos) (e :: es) [] pos) (lMeth C m sp dts E2 la l) := by
  refine PE.weak (pe_meth he c hm F hr hb hd hx ha hst hpl ht) fun σ H Q ⟨S, G, Φ, s, g, q, kk⟩ => ?_
  refine ⟨S, G, _, s, g, q, fun t G1 v H1 q1 r1 g1 s1 => ?_⟩
  cases r1 with
  | ref a =>
    simp only at q1
    split at q1
    · rename_i C' fs e1
      obtain ⟨hC, hl, q1⟩ := q1
      subst hC
      obtain ⟨dx, raw, h1, rf⟩ := g1.obj _ _ e1
      have hl' : raw.lookup m = none := by
        rcases rf.look (f := m) with ⟨_, z⟩ | ⟨t, v, z, _⟩
        · exact z
        · rw [hl] at z; cases z
      refine ⟨a, dx, raw, rfl, h1, hl', ?_⟩
      refine ⟨S, G1, _, s.stay (s1.stay g), g1, q1, fun ts G2 vs H2 q2 r2 g2 s2 => ?_⟩
      exact ⟨_, G2, Φ, E2, .cons (.ref a) (r2.app (hdt H2)), g2.nil, q2, fun t G' v H' a b c d => kk t G' v H' a b (g2.back c d) ((s1.trans s2).trans d), fun C fs G' H' cls d a b c d' => ⟨C, fs, G', a, b, g2.back c d'⟩⟩
    · exact q1.elim
  | _ => exact q1.elim
theorem e_meth0 {pl : Sem Bool} (he : E en X o la) (c : Cls X.K C) (hm : Meth X.K C m f) (F : FnOk X.prog X.w X.K X.mg X.base CX k f fd ps (lowSp X.K sp)) (hr : Room k X.A) (hb : Binds X.K fd ps ds) (hd : Vals dvs ds) (hdt : ∀ H, RelL X.K H dvs dts) (hx : Passes CX X (lowX X.K en E2))
    (ht : eval (.Call (.Attribute o m apos) [] [] pos) X.env = (do
      let ov ← eval o X.env
      standAt apos.atName
      let (f, first) ← holding [ov] (getMethod ov m pl)
      callWith pos f first (backTo pos (starEach [] X.env)) (backToKw pos (keywordEach [] X.env))) := by rfl) :
    E en X (.Call (.Attribute o m apos) [] [] pos) (lMeth C m sp dts E2 la lNil) := by
  refine PE.weak (pe_meth0 he c hm F hr hb hd hx ht) fun σ H Q ⟨S, G, Φ, s, g, q, kk⟩ => ?_
  refine ⟨S, G, _, s, g, q, fun t G1 v H1 q1 r1 g1 s1 => ?_⟩
  cases r1 with
  | ref a =>
    simp only at q1
    split at q1
    · rename_i C' fs e1
      obtain ⟨hC, hl, q1⟩ := q1
      subst hC
      obtain ⟨dx, raw, h1, rf⟩ := g1.obj _ _ e1
      have hl' : raw.lookup m = none := by
        rcases rf.look (f := m) with ⟨_, z⟩ | ⟨t, v, z, _⟩
        · exact z
        · rw [hl] at z; cases z
      refine ⟨a, dx, raw, rfl, h1, hl', ?_⟩
      exact ⟨_, G1, Φ, E2, .cons (.ref a) (RelL.app .nil (hdt H1)), g1.nil, q1, fun t G' v H' a b c d => kk t G' v H' a b (g1.back c d) (s1.trans d), fun C fs G' H' cls d a b c d' => ⟨C, fs, G', a, b, g1.back c d'⟩⟩
    · exact q1.elim
  | _ => exact q1.elim
theorem made {K : Fr0} {H : Hp} {G : Gp} {x dx : Addr} (g : HRel K en H G) (h1 : H x = none) (h2 : H dx = none) (hne : dx ≠ x) : HRel K en (L2.upd (L2.upd H dx (.own x)) x (.ins C dx [])) (gup G x (.ins C [])) ∧ Step H G (L2.upd (L2.upd H dx (.own x)) x (.ins C dx [])) (gup G x (.ins C [])) := by
  obtain ⟨g1, s1, _⟩ := g.laid (ho := .own x) h2
  obtain ⟨g2, s2, _⟩ := g1.upd (a := x) (ho := .ins C dx []) (o := .ins C []) (.inl (by rw [upd_ne hne.symm]; exact h1)) (fun n z => by cases z) ⟨dx, [], upd_same, .nil⟩
  exact ⟨g2, s1.trans s2⟩
theorem e_make (M : Mk X.K C f) (F : FnOk X.prog X.w X.K X.mg X.base CX k f fd ps (lowSp X.K sp)) (hr : Room (k + 1) X.A) (hg : Gl X x) (hm : X.mg x = some (.ref C)) (hb : Binds X.K fd ps ds) (hd : Vals dvs ds) (hdt : ∀ H, RelL X.K H dvs dts) (hx : Passes CX X (lowX X.K en E2))
    (ha : Ea en X (e :: es) l) (hdb : (x == ("__debug__" : Str)) = false := by decide) (he : starEach (e :: es) X.env = (false, eval e X.env) :: starEach es X.env := by rfl) (hpl : (backTo pos (starEach es X.env)).any (·.1) = false := by rfl) :
    E en X (.Call (.Name x p) (e :: es) [] pos) (lMake C sp dts E2 l) := by
  refine PE.weak (pe_make M F hr hg hm hb hd hx ha hdb he hpl) fun σ H Q ⟨S, G, Φ, s, g, q, kk⟩ => ?_
  refine ⟨S, G, _, s, g, q, fun ts G1 vs H1 q1 r1 g1 s1 y dy h1 h2 hne => ?_⟩
  obtain ⟨g2, s2⟩ := made (C := C) g1 h1 h2 hne
  exact ⟨_, _, _, E2, .cons (.ref y) ((r1.stay (s2.stay g1)).app (hdt _)), g2.nil, q1 y (g1.fresh h1), fun t G' v H' a b c d => by
    obtain ⟨e1, a⟩ := a
    subst e1
    cases b
    exact ⟨rfl, kk _ G' _ H' a (.ref y) (g2.back c d) ((s1.trans s2).trans d)⟩, fun C fs G' H' cls d a b c d' => ⟨C, fs, G', a, b, g2.back c d'⟩⟩
theorem e_fld {fl : Str} (he : E en X o la) (c : Cls X.K C) (n : NoAttr X.K C fl) (hb : attributeBase o fl X.env (eval o X.env) = eval o X.env := by rfl) : E en X (.Attribute o fl pos) (lFld C fl la) := by
  refine PE.weak (pe_fld he hb) fun σ H Q ⟨S, G, Φ, s, g, q, kk⟩ => ?_
  refine ⟨S, G, _, s, g, q, fun t G1 v H1 q1 r1 g1 s1 => ?_⟩
  cases r1 with
  | ref a =>
    simp only at q1
    split at q1
    · rename_i C' fs e1
      obtain ⟨hC, q1⟩ := q1
      subst hC
      split at q1
      · rename_i u e2
        obtain ⟨dx, raw, h1, rf⟩ := g1.obj _ _ e1
        rcases rf.look (f := fl) with ⟨z, _⟩ | ⟨t, v, z1, z2, z3⟩
        · rw [e2] at z; cases z
        · rw [e2] at z1
          cases z1
          exact ⟨a, C', dx, raw, v, rfl, h1, c, n, z2, kk u G1 v H1 q1 z3 g1 s1⟩
      · exact q1.elim
    · exact q1.elim
  | _ => exact q1.elim
theorem s_fld {fl : Str} {pos' : Pos} (ha : E en X o la) (hv : E en X e lv) (c : Cls X.K C) (n : NoAttr X.K C fl) (hs : swapsWith e (some (.Attribute o fl pos')) pos.line X.env = pure false := by rfl) : Es en X (.Assign [.Attribute o fl pos'] e pos) (lFldS C fl la lv) := by
  refine PS.weak (ps_fld ha hv hs) fun D σ H ⟨S, G, L, s, g, q, ends⟩ => ?_
  refine ⟨S, G, _, s, g, q, fun v G1 x H1 q1 r1 g1 s1 => ?_⟩
  refine ⟨S, G1, _, s.stay (s1.stay g), g1, q1, fun t G2 y H2 q2 r2 g2 s2 => ?_⟩
  have s12 := s1.trans s2
  cases r2 with
  | ref a =>
    simp only at q2
    split at q2
    · rename_i C' fs e1
      obtain ⟨hC, hl, q2⟩ := q2
      subst hC
      obtain ⟨dx, raw, h1, rf⟩ := g2.obj _ _ e1
      have st := stayL (ho := .ins C' dx (putF fl x raw)) g2 e1 (fun n z => by cases z)
      obtain ⟨g3, s3, st3⟩ := g2.upd (a := a) (ho := .ins C' dx (putF fl x raw)) (o := .ins C' (putT fl v fs)) (.inr ⟨_, e1, fun n z => by cases z⟩) (fun n z => by cases z) ⟨dx, _, upd_same, RelF.stay st (rf.put (r1.stay (s2.stay g1)))⟩
      exact ⟨a, C', dx, raw, rfl, h1, c, n, by rw [rf.length]; exact hl, ends.nx S _ σ _ q2 (s.stay ((s12.trans s3).stay g)) g3 (s12.trans s3)⟩
    · exact q2.elim
  | _ => exact q2.elim

/-! ### built-ins by name -/
theorem low_cb {K : Fr0} {r : RLT} : ∀ σ H Q, low K en (lCB r l) σ H Q → tCB (lowC K en r) (lowA K en l) σ H Q := by
  intro σ H Q ⟨S, G, Φ, s, g, q, kk⟩
  refine ⟨S, G, _, s, g, q, fun ts G1 vs H1 q1 r1 g1 s1 => ?_⟩
  exact ⟨ts, G1, Φ, r1, g1, q1, fun t G' v H' a b c d => kk t G' v H' a b c (s1.trans d)⟩
theorem e_cb {r : RLT} {id : String} (hc : CallR X (.builtin id) (lowC X.K en r)) (hg : Gl X x) (hm : X.mg x = none) (hv : bootBuiltins x = some (.builtin id)) (ha : Ea en X (e :: es) l) (hn : x ≠ "__name__" := by decide) (hdb : (x == ("__debug__" : Str)) = false := by decide)
    (he : starEach (e :: es) X.env = (false, eval e X.env) :: starEach es X.env := by rfl) (hpl : (backTo pos (starEach es X.env)).any (·.1) = false := by rfl) : E en X (.Call (.Name x p) (e :: es) [] pos) (lCB r l) :=
  PE.weak (pe_callB hc hg hm hv ha hn hdb he hpl) low_cb
theorem e_ct {r : RLT} {ty : String} (hc : CallR X (.type ty) (lowC X.K en r)) (hg : Gl X x) (hm : X.mg x = none) (hv : bootBuiltins x = some (.type ty)) (ha : Ea en X (e :: es) l) (hn : x ≠ "__name__" := by decide) (hdb : (x == ("__debug__" : Str)) = false := by decide)
    (he : starEach (e :: es) X.env = (false, eval e X.env) :: starEach es X.env := by rfl) (hpl : (backTo pos (starEach es X.env)).any (·.1) = false := by rfl) : E en X (.Call (.Name x p) (e :: es) [] pos) (lCB r l) :=
  PE.weak (pe_callTy hc hg hm hv ha hn hdb he hpl) low_cb
def lenT : RLT := fun ts G Φ => match ts with
  | [.str s] => s.length ≤ sizeLine ∧ Φ (.int (s.length : Int)) G
  | [.tup xs] => Φ (.int (xs.length : Int)) G
  | [.ref a] => (match G a with
    | some (.lst xs) => Φ (.int (xs.length : Int)) G
    | some (.dic kvs) => Φ (.int (kvs.length : Int)) G
    | some (.fdic _ _ kvs) => Φ (.int (kvs.length : Int)) G
    | _ => False)
  | _ => False
theorem call_lenR : CallR X (.builtin "len") (fun xs H Q => ∃ a kvs, xs = [V.ref a] ∧ Rd H a (.dK kvs) ∧ Q (.int kvs.length) H) := by
  intro pins s σ H xs us Q I r h
  obtain ⟨a, kvs, rfl, ha, q⟩ := h
  obtain ⟨u, rfl, ru⟩ := vals1 r
  cases ru
  exact d_len I ha fun t s' I' => ⟨.int kvs.length, H, I', ⟨t, rfl⟩, q⟩
theorem b_len : CallR X (.builtin "len") (lowC X.K en lenT) := by
  refine CallR.weak (CallR.or call_len call_lenR) fun xs H Q ⟨ts, G, Φ, r, g, q, kk⟩ => ?_
  unfold lenT at q
  split at q
  · cases r with
    | cons h1 h2 =>
      cases h1
      cases h2
      exact .inl ⟨_, _, rfl, ⟨q.1, rfl⟩, kk _ _ _ _ q.2 (.int _) g (Step.refl H G)⟩
  · cases r with
    | cons h1 h2 =>
      cases h2
      cases h1 with
      | tup hs rs => exact .inl ⟨_, _, rfl, .inr ⟨_, hs, rfl⟩, by rw [rs.length]; exact kk _ _ _ _ q (.int _) g (Step.refl H G)⟩
  · cases r with
    | cons h1 h2 =>
      cases h1
      cases h2
      split at q
      · rename_i xs e1
        obtain ⟨vs, h1, r1⟩ := g.obj _ _ e1
        exact .inl ⟨_, _, rfl, .inl ⟨_, SqL.of h1, rfl⟩, by rw [r1.length]; exact kk _ _ _ _ q (.int _) g (Step.refl H G)⟩
      · rename_i kvs e1
        obtain ⟨vs, h1, r1⟩ := g.obj _ _ e1
        exact .inr ⟨_, _, rfl, .inl h1, by rw [r1.length]; exact kk _ _ _ _ q (.int _) g (Step.refl H G)⟩
      · rename_i ob vs kvs e1
        obtain ⟨h1, r1⟩ := g.obj _ _ e1
        exact .inr ⟨_, _, rfl, .inr ⟨_, h1⟩, by rw [r1.length]; exact kk _ _ _ _ q (.int _) g (Step.refl H G)⟩
      · exact q.elim
  · exact q.elim
def absT : RLT := fun ts G Φ => match ts with
  | [.int i] => Φ (.int (if i < 0 then -i else i)) G
  | _ => False
theorem b_abs : CallR X (.builtin "abs") (lowC X.K en absT) := by
  refine CallR.weak call_abs fun xs H Q ⟨ts, G, Φ, r, g, q, kk⟩ => ?_
  unfold absT at q
  split at q
  · cases r with
    | cons h1 h2 =>
      cases h1
      cases h2
      exact ⟨_, rfl, kk _ _ _ _ q (.int _) g (Step.refl H G)⟩
  · exact q.elim
def intCT : RLT := fun ts G Φ => match ts with
  | [.int i] => Φ (.int i) G
  | [.bl k] => Φ (.int (if k then 1 else 0)) G
  | _ => False
theorem b_int : CallR X (.type "int") (lowC X.K en intCT) := by
  refine CallR.weak call_int1 fun xs H Q ⟨ts, G, Φ, r, g, q, kk⟩ => ?_
  unfold intCT at q
  split at q
  · cases r with
    | cons h1 h2 =>
      cases h1
      cases h2
      exact .inl ⟨_, rfl, kk _ _ _ _ q (.int _) g (Step.refl H G)⟩
  · cases r with
    | cons h1 h2 =>
      cases h1
      cases h2
      exact .inr ⟨_, rfl, kk _ _ _ _ q (.int _) g (Step.refl H G)⟩
  · exact q.elim
def listT : RLT := fun ts G Φ => match ts with
  | [.tup xs] => ∀ p, G p = none → Φ (.ref p) (gup G p (.lst xs))
  | [.ref a] => (match G a with
    | some (.lst xs) => ∀ p, G p = none → Φ (.ref p) (gup G p (.lst xs))
    | _ => False)
  | _ => False
theorem b_list : CallR X (.type "list") (lowC X.K en listT) := by
  refine CallR.weak call_list_of fun xs H Q ⟨ts, G, Φ, r, g, q, kk⟩ => ?_
  unfold listT at q
  split at q
  · cases r with
    | cons h1 h2 =>
      cases h2
      cases h1 with
      | tup hs rs =>
        refine ⟨_, _, rfl, .inr hs, fun p hp => ?_⟩
        obtain ⟨g2, s2⟩ := lst_laid g hp rs
        exact kk _ _ _ _ (q p (g.fresh hp)) (.ref p) g2 s2
  · cases r with
    | cons h1 h2 =>
      cases h1
      cases h2
      split at q
      · rename_i xs e1
        obtain ⟨vs, h1, r1⟩ := g.obj _ _ e1
        refine ⟨_, _, rfl, .inl (SqL.of h1), fun p hp => ?_⟩
        obtain ⟨g2, s2⟩ := lst_laid g hp r1
        exact kk _ _ _ _ (q p (g.fresh hp)) (.ref p) g2 s2
      · exact q.elim
  · exact q.elim
def tupCT : RLT := fun ts G Φ => match ts with
  | [.tup xs] => Φ (.tup xs) G
  | [.ref a] => (match G a with
    | some (.lst xs) => Φ (.tup xs) G
    | _ => False)
  | _ => False
theorem b_tuple : CallR X (.type "tuple") (lowC X.K en tupCT) := by
  refine CallR.weak call_tuple_of fun xs H Q ⟨ts, G, Φ, r, g, q, kk⟩ => ?_
  unfold tupCT at q
  split at q
  · cases r with
    | cons h1 h2 =>
      cases h2
      cases h1 with
      | tup hs rs => exact ⟨_, _, rfl, .inr ⟨hs, kk _ _ _ _ q (.tup hs rs) g (Step.refl H G)⟩⟩
  · cases r with
    | cons h1 h2 =>
      cases h1
      cases h2
      split at q
      · rename_i xs e1
        obtain ⟨vs, h1, r1⟩ := g.obj _ _ e1
        refine ⟨_, _, rfl, .inl ⟨SqL.of h1, fun p hp => ?_⟩⟩
        obtain ⟨r2, g2, s2⟩ := tup_laid g hp r1
        exact kk _ _ _ _ q r2 g2 s2
      · exact q.elim
  · exact q.elim
/-- sorted of texts, of a dict's keys that are texts -/
def sortT : RLT := fun ts G Φ => match ts with
  | [.ref a] => (match G a with
    | some (.lst xs) => ∃ ss : List Str, xs = ss.map T.str ∧ ss.length < 64 ∧ ∀ ys p, ys.Perm ss → PyProof.Rows.sortedS ys = true → G p = none → Φ (.ref p) (gup G p (.lst (ys.map T.str)))
    | some (.dic kvs) => ∃ ss : List Str, kvs.map (·.1) = ss.map T.str ∧ ss.length < 64 ∧ ∀ ys p, ys.Perm ss → PyProof.Rows.sortedS ys = true → G p = none → Φ (.ref p) (gup G p (.lst (ys.map T.str)))
    | some (.fdic _ _ kvs) => ∃ ss : List Str, kvs.map (·.1) = ss.map T.str ∧ ss.length < 64 ∧ ∀ ys p, ys.Perm ss → PyProof.Rows.sortedS ys = true → G p = none → Φ (.ref p) (gup G p (.lst (ys.map T.str)))
    | _ => False)
  | _ => False
theorem strs_rel {K : Fr0} {H : Hp} : ∀ ss : List Str, RelL K H (ss.map V.str) (ss.map T.str)
  | [] => .nil
  | s :: ss => .cons (.str s) (strs_rel ss)
theorem RelD.strKeys {K : Fr0} {H : Hp} : ∀ {vs : List (Key × V)} {ts : List (T × T)} {ss : List Str}, RelD K H vs ts → ts.map (·.1) = ss.map T.str → vs.map (·.1) = ss.map Sum.inr
  | _, _, [], .nil, _ => rfl
  | _, _, [], .cons _ _, e => by simp at e
  | _, _, _ :: _, .nil, e => by simp at e
  | _, _, s :: ss, .cons (k := k) r rs, e => by
    simp only [List.map_cons, List.cons.injEq] at e ⊢
    refine ⟨?_, RelD.strKeys rs e.2⟩
    cases k with
    | inl i => cases e.1
    | inr x =>
      have := e.1
      simp only [kT, T.str.injEq] at this
      rw [this]
theorem b_sorted (hc : X.calm = true) : CallR X (.builtin "sorted") (lowC X.K en sortT) := by
  refine CallR.weak (CallR.or cr_sortedS (call_sortedD hc)) fun xs H Q ⟨ts, G, Φ, r, g, q, kk⟩ => ?_
  unfold sortT at q
  split at q
  · cases r with
    | cons h1 h2 =>
      cases h1
      cases h2
      split at q
      · rename_i xs e1
        obtain ⟨ss, rfl, hl, q⟩ := q
        obtain ⟨vs, h1, r1⟩ := g.obj _ _ e1
        have e := r1.strs
        subst e
        refine .inl ⟨_, ss, rfl, SqL.of h1, hl, fun ys p hp1 hs hp => ?_⟩
        obtain ⟨g2, s2⟩ := lst_laid g hp (strs_rel ys)
        exact kk _ _ _ _ (q ys p hp1 hs (g.fresh hp)) (.ref p) g2 s2
      · rename_i kvs e1
        obtain ⟨ss, e, hl, q⟩ := q
        obtain ⟨vs, h1, r1⟩ := g.obj _ _ e1
        refine .inr ⟨_, vs, ss, rfl, .inl h1, r1.strKeys e, hl, fun ys p hp1 hs hp => ?_⟩
        obtain ⟨g2, s2⟩ := lst_laid g hp (strs_rel ys)
        exact kk _ _ _ _ (q ys p hp1 hs (g.fresh hp)) (.ref p) g2 s2
      · rename_i ob vs kvs e1
        obtain ⟨ss, e, hl, q⟩ := q
        obtain ⟨h1, r1⟩ := g.obj _ _ e1
        refine .inr ⟨_, vs, ss, rfl, .inr ⟨_, h1⟩, r1.strKeys e, hl, fun ys p hp1 hs hp => ?_⟩
        obtain ⟨g2, s2⟩ := lst_laid g hp (strs_rel ys)
        exact kk _ _ _ _ (q ys p hp1 hs (g.fresh hp)) (.ref p) g2 s2
      · exact q.elim
  · exact q.elim
/-- dict of a list of pairs, of a dict -/
def pairsT : List T → Option (List (T × T))
  | [] => some []
  | .tup [k, v] :: r => (match keyT k, pairsT r with
    | some _, some ps => some ((k, v) :: ps)
    | _, _ => none)
  | _ => none
def dmerge (kvs more : List (T × T)) : List (T × T) := more.foldl (fun acc kv => dput acc kv.1 kv.2) kvs
def dictT : RLT := fun ts G Φ => match ts with
  | [.ref a] => (match G a with
    | some (.lst xs) => (match pairsT xs with
      | some ps => ∀ p, G p = none → Φ (.ref p) (gup G p (.dic (dmerge [] ps)))
      | none => False)
    | some (.dic kvs) => ∀ p, G p = none → Φ (.ref p) (gup G p (.dic kvs))
    | some (.fdic _ _ kvs) => ∀ p, G p = none → Φ (.ref p) (gup G p (.dic kvs))
    | _ => False)
  | _ => False
theorem RelD.merge {K : Fr0} {H : Hp} {ms : List (Key × V)} {ns : List (T × T)} (m : RelD K H ms ns) : ∀ {vs : List (Key × V)} {ts : List (T × T)}, RelD K H vs ts → RelD K H (mergeK vs ms) (dmerge ts ns) := by
  induction m with
  | nil => intro vs ts r; exact r
  | cons h hs ih => intro vs ts r; exact ih (r.put h)
theorem pairs_rel {K : Fr0} {H : Hp} : ∀ {xs : List T} {vs : List V} {ps : List (T × T)}, RelL K H vs xs → pairsT xs = some ps →
    ∃ (as : List Addr) (kvs : List (Key × V)), vs = as.map V.ref ∧ Paired (fun p kv => SqT K H p [kV kv.1, kv.2]) as kvs ∧ RelD K H kvs ps
  | [], _, _, .nil, e => by
    simp only [pairsT, Option.some.injEq] at e
    subst e
    exact ⟨[], [], rfl, .nil, .nil⟩
  | x :: xs, _, ps, .cons (v := v) h hs, e => by
    unfold pairsT at e
    split at e
    · rename_i heq
      cases heq
    · rename_i k t r heq
      simp only [List.cons.injEq] at heq
      obtain ⟨h1, h2⟩ := heq
      subst h1 h2
      split at e
      · rename_i k0 qs ek ep
        cases e
        obtain ⟨as, kvs, e1, e2, e3⟩ := pairs_rel hs ep
        have eu := keyT_kT ek
        subst eu
        cases h with
        | tup hq rs =>
          cases rs with
          | cons r1 rs =>
            cases rs with
            | cons r2 rs =>
              cases rs
              have ek := r1.key
              subst ek
              exact ⟨_ :: as, (k0, _) :: kvs, by rw [e1]; rfl, .cons hq e2, .cons r2 e3⟩
      · cases e
    · cases e
theorem dic_laid {K : Fr0} {H : Hp} {G : Gp} {p : Addr} {vs : List (Key × V)} {ts : List (T × T)} (g : HRel K en H G) (hp : H p = none) (r : RelD K H vs ts) : HRel K en (L2.upd H p (.dK vs)) (gup G p (.dic ts)) ∧ Step H G (L2.upd H p (.dK vs)) (gup G p (.dic ts)) := by
  have hp' : ∀ ho, Stay K H (L2.upd H p ho) := fun ho => (g.laid (ho := ho) hp).2.2
  obtain ⟨g1, s1, st⟩ := g.upd (a := p) (ho := .dK vs) (o := .dic ts) (.inl hp) (fun n z => by cases z) ⟨vs, upd_same, r.stay (hp' _)⟩
  exact ⟨g1, s1⟩
theorem b_dict (hc : X.calm = true) : CallR X (.type "dict") (lowC X.K en dictT) := by
  refine CallR.weak (CallR.or (call_dictP hc) call_dictD) fun xs H Q ⟨ts, G, Φ, r, g, q, kk⟩ => ?_
  unfold dictT at q
  split at q
  · cases r with
    | cons h1 h2 =>
      cases h1
      cases h2
      split at q
      · rename_i xs e1
        split at q
        · rename_i ps e2
          obtain ⟨vs, h1, r1⟩ := g.obj _ _ e1
          obtain ⟨as, kvs, e3, e4, e5⟩ := pairs_rel r1 e2
          subst e3
          refine .inl ⟨_, as, kvs, rfl, SqL.of h1, e4, fun p hp => ?_⟩
          obtain ⟨g2, s2⟩ := dic_laid g hp (RelD.merge e5 .nil)
          exact kk _ _ _ _ (q p (g.fresh hp)) (.ref p) g2 s2
        · exact q.elim
      · rename_i kvs e1
        obtain ⟨vs, h1, r1⟩ := g.obj _ _ e1
        refine .inr ⟨_, vs, rfl, .inl h1, fun p hp => ?_⟩
        obtain ⟨g2, s2⟩ := dic_laid g hp r1
        exact kk _ _ _ _ (q p (g.fresh hp)) (.ref p) g2 s2
      · rename_i ob vs kvs e1
        obtain ⟨h1, r1⟩ := g.obj _ _ e1
        refine .inr ⟨_, vs, rfl, .inr ⟨ob, h1⟩, fun p hp => ?_⟩
        obtain ⟨g2, s2⟩ := dic_laid g hp r1
        exact kk _ _ _ _ (q p (g.fresh hp)) (.ref p) g2 s2
      · exact q.elim
  · exact q.elim

/-! ### methods of lists and texts -/
def tyT (ty : String) (t : T) (G : Gp) : Prop := match t with
  | .str _ => ty = "str"
  | .ref a => (match G a with
    | some (.lst _) => ty = "list"
    | some (.dic _) => ty = "dict"
    | _ => False)
  | _ => False
def lBM (ty : String) (r : RMT) (la : LE) (l : LA) : LE := fun S G Φ => la S G fun t G1 => tyT ty t G1 ∧ l S G1 fun ts G2 => r t ts G2 Φ
theorem MtR.weak {id : String} {r r' : V → List V → Hp → VK → Prop} (h : MtR X id r) (w : ∀ x xs H Q, r' x xs H Q → r x xs H Q) : MtR X id r' := fun pins s σ H x xs v us Q I rx rs q => h pins s σ H x xs v us Q I rx rs (w x xs H Q q)
theorem tyT_ok {K : Fr0} {H : Hp} {G : Gp} {t : T} {v : V} {ty : String} (g : HRel K en H G) (r : Rel K H v t) (h : tyT ty t G) : tyV K ty v H := by
  cases r with
  | str _ => exact h
  | ref a =>
    simp only [tyT] at h
    split at h
    · rename_i xs e
      obtain ⟨vs, h1, _⟩ := g.obj _ _ e
      exact .inl ⟨h, vs, SqL.of h1⟩
    · rename_i xs e
      obtain ⟨vs, h1, _⟩ := g.obj _ _ e
      exact .inr (.inr (.inl ⟨h, .inl ⟨vs, h1⟩⟩))
    · exact h.elim
  | _ => exact h.elim
theorem e_bm {r : RMT} {ty id : String} {name : Str} (pa : PlainAttrs ty) (slot : Slot ty name id) (hty : typeOf (.builtin id) = pure (.type "method_descriptor")) (hm : MtR X id (lowM X.K en r)) (ho : E en X o la) (ha : Ea en X (e :: es) l)
    (hbase : attributeBase o name X.env (eval o X.env) = eval o X.env := by rfl)
    (hfew : ((backTo cpos (starEach (e :: es) X.env)).all (fun x => !x.1) && (backToKw cpos (keywordEach [] X.env)).all (fun x => x.1.isSome)
      && decide ((e :: es).length + ([] : List Keyword).length + (if ([] : List Keyword).isEmpty then 0 else 1) < 30)) = true := by rfl)
    (hline : (apos.endLine == cpos.line) = true := by rfl) (hs : starEach (e :: es) X.env = (false, eval e X.env) :: starEach es X.env := by rfl) (hplain : (backTo cpos (starEach es X.env)).any (·.1) = false := by rfl) :
    E en X (.Call (.Attribute o name apos) (e :: es) [] cpos) (lBM ty r la l) := by
  refine PE.weak (pe_bm pa slot hty hm ho ha hbase hfew hline hs hplain) fun σ H Q ⟨S, G, Φ, s, g, q, kk⟩ => ?_
  refine ⟨S, G, _, s, g, q, fun t G1 v H1 q1 r1 g1 s1 => ⟨tyT_ok g1 r1 q1.1, ?_⟩⟩
  refine ⟨S, G1, _, s.stay (s1.stay g), g1, q1.2, fun ts G2 vs H2 q2 r2 g2 s2 => ?_⟩
  exact ⟨t, ts, G2, Φ, r1.stay (s2.stay g1), r2, g2, q2, fun t' G' v' H' a b c d => kk t' G' v' H' a b c ((s1.trans s2).trans d)⟩
theorem e_bm0 {r : RMT} {ty id : String} {name : Str} (pa : PlainAttrs ty) (slot : Slot ty name id) (hty : typeOf (.builtin id) = pure (.type "method_descriptor")) (hm : MtR X id (lowM X.K en r)) (ho : E en X o la)
    (hbase : attributeBase o name X.env (eval o X.env) = eval o X.env := by rfl) (hline : (apos.endLine == cpos.line) = true := by rfl) : E en X (.Call (.Attribute o name apos) [] [] cpos) (lBM ty r la lNil) := by
  refine PE.weak (pe_bm0 pa slot hty hm ho hbase hline) fun σ H Q ⟨S, G, Φ, s, g, q, kk⟩ => ?_
  refine ⟨S, G, _, s, g, q, fun t G1 v H1 q1 r1 g1 s1 => ⟨tyT_ok g1 r1 q1.1, ?_⟩⟩
  exact ⟨t, [], G1, Φ, r1, .nil, g1, q1.2, fun t' G' v' H' a b c d => kk t' G' v' H' a b c (s1.trans d)⟩
/-- a list is changed -/
theorem lst_upd {K : Fr0} {H : Hp} {G : Gp} {p : Addr} {vs : List V} {ts ts0 : List T} (g : HRel K en H G) (e : G p = some (.lst ts0)) (r : RelL K H vs ts) : HRel K en (L2.upd H p (.lst vs)) (gup G p (.lst ts)) ∧ Step H G (L2.upd H p (.lst vs)) (gup G p (.lst ts)) ∧ Stay K H (L2.upd H p (.lst vs)) :=
  g.upd (a := p) (ho := .lst vs) (o := .lst ts) (.inr ⟨_, e, fun n z => by cases z⟩) (fun n z => by cases z) ⟨vs, upd_same, RelL.stay (stayL g e (fun n z => by cases z)) r⟩
def appT : RMT := fun t ts G Φ => match t, ts with
  | .ref a, [u] => (match G a with
    | some (.lst xs) => xs.length < sizeLine ∧ Φ .non (gup G a (.lst (xs ++ [u])))
    | _ => False)
  | _, _ => False
theorem m_append : MtR X "list.append" (lowM X.K en appT) := by
  refine MtR.weak (show MtR X "list.append" rAppend from mt_append) fun x xs H Q ⟨t, ts, G, Φ, rt, rs, g, q, kk⟩ => ?_
  unfold appT at q
  split at q
  · split at q
    · rename_i xs e1
      cases rt
      cases rs with
      | cons r1 r2 =>
        cases r2
        obtain ⟨vs, h1, r3⟩ := g.obj _ _ e1
        obtain ⟨g2, s2, _⟩ := lst_upd g e1 (r3.app (.cons r1 .nil))
        exact ⟨_, vs, _, rfl, rfl, h1, by rw [r3.length]; exact q.1, kk _ _ _ _ q.2 .non g2 s2⟩
    · exact q.elim
  · exact q.elim
def extT : RMT := fun t ts G Φ => match t, ts with
  | .ref a, [.ref b] => (match G a, G b with
    | some (.lst xs), some (.lst ys) => xs.length + ys.length ≤ sizeLine ∧ Φ .non (gup G a (.lst (xs ++ ys)))
    | _, _ => False)
  | _, _ => False
theorem m_extend : MtR X "list.extend" (lowM X.K en extT) := by
  refine MtR.weak (show MtR X "list.extend" rExtend from mt_extend) fun x xs H Q ⟨t, ts, G, Φ, rt, rs, g, q, kk⟩ => ?_
  unfold extT at q
  split at q
  · split at q
    · rename_i xs ys e1 e2
      cases rt
      cases rs with
      | cons r1 r2 =>
        cases r1
        cases r2
        obtain ⟨vs, h1, r3⟩ := g.obj _ _ e1
        obtain ⟨ws, h2, r4⟩ := g.obj _ _ e2
        obtain ⟨g2, s2, _⟩ := lst_upd g e1 (r3.app r4)
        exact ⟨_, _, vs, ws, rfl, rfl, h1, h2, by rw [r3.length, r4.length]; exact q.1, kk _ _ _ _ q.2 .non g2 s2⟩
    · exact q.elim
  · exact q.elim
/-- xs.pop(), xs.pop(i) with i from 0 on -/
def popT : RMT := fun t ts G Φ => match t, ts with
  | .ref a, [] => (match G a with
    | some (.lst xs) => (match xs[xs.length - 1]? with
      | some u => Φ u (gup G a (.lst xs.dropLast))
      | none => False)
    | _ => False)
  | .ref a, [.int i] => (match G a with
    | some (.lst xs) => (0 ≤ i ∧ i < 2 ^ 63) ∧ (match xs[i.toNat]? with
      | some u => Φ u (gup G a (.lst (xs.eraseIdx i.toNat)))
      | none => False)
    | _ => False)
  | _, _ => False
theorem RelL.dropLast {K : Fr0} {H : Hp} {vs : List V} {ts : List T} (r : RelL K H vs ts) : RelL K H vs.dropLast ts.dropLast := by
  rw [List.dropLast_eq_take, List.dropLast_eq_take, r.length]
  exact r.take _
theorem m_pop : MtR X "list.pop" (lowM X.K en popT) := by
  refine MtR.weak (MtR.or (show MtR X "list.pop" rPop from mt_pop) (show MtR X "list.pop" rPopAt from mt_popAt)) fun x xs H Q ⟨t, ts, G, Φ, rt, rs, g, q, kk⟩ => ?_
  unfold popT at q
  split at q
  · split at q
    · rename_i xs e1
      split at q
      · rename_i u e2
        cases rt
        cases rs
        obtain ⟨vs, h1, r3⟩ := g.obj _ _ e1
        obtain ⟨v, h2, r4⟩ := r3.get e2
        obtain ⟨g2, s2, st⟩ := lst_upd g e1 r3.dropLast
        exact .inl ⟨_, vs, v, rfl, rfl, h1, by rw [r3.length]; exact h2, kk _ _ _ _ q (r4.stay st) g2 s2⟩
      · exact q.elim
    · exact q.elim
  · split at q
    · rename_i xs e1
      obtain ⟨h0, q⟩ := q
      split at q
      · rename_i i _ _ u e2
        cases rt
        cases rs with
        | cons r1 r2 =>
          cases r1
          cases r2
          obtain ⟨vs, h1, r3⟩ := g.obj _ _ e1
          obtain ⟨v, h2, r4⟩ := r3.get e2
          obtain ⟨g2, s2, st⟩ := lst_upd g e1 (r3.erase i.toNat)
          have hlt : i.toNat < vs.length := (List.getElem?_eq_some_iff.mp h2).1
          exact .inr ⟨_, vs, i, i.toNat, v, rfl, rfl, h1, by omega, h0.2, seqIndex_of h0.1 (by omega), h2, kk _ _ _ _ q (r4.stay st) g2 s2⟩
      · exact q.elim
    · exact q.elim
  · exact q.elim
end
end Dv
namespace Dv
open PySem PySem.Spec PyProof.Rows L2

/-! ### a def's body gives its promise -/
def rtF (Φ : QT) : QT := fun t G' => ∃ G'', Sub G'' G' ∧ Φ t G''
abbrev bodyL (Φ : QT) : LEnds := { nx := fun _ G' => rtF Φ .non G', rt := rtF Φ }
def slots0 (N : List Str) (ts : List T) : S2 := ts.map some ++ List.replicate (N.length - ts.length) none
theorem srel_start {K : Fr0} {H : Hp} {N : List Str} {vs : List V} {ts : List T} (r : RelL K H vs ts) : SRel K H (L2.start N vs) (slots0 N ts) := by
  refine ⟨by unfold L2.start slots0; simp [r.length], fun i t e => ?_⟩
  unfold slots0 at e
  unfold L2.start
  by_cases h : i < ts.length
  · rw [List.getElem?_append_left (by simpa using h), List.getElem?_map] at e
    cases q : ts[i]? with
    | none => rw [q] at e; cases e
    | some u =>
      rw [q] at e
      cases e
      obtain ⟨v, e1, e2⟩ := r.get q
      exact ⟨v, by rw [List.getElem?_append_left (by rw [List.length_map, r.length]; exact h), List.getElem?_map, e1]; rfl, e2⟩
  · rw [List.getElem?_append_right (by simpa using h)] at e
    rw [List.getElem?_replicate] at e
    split at e <;> cases e
theorem ends_body {K : Fr0} {H : Hp} {G : Gp} {Φ : QT} {Q : VK} (k : ∀ t G' v H', Φ t G' → Rel K H' v t → HRel K [] H' G' → Step H G H' G' → Q v H') : EndsOk K [(H, G)] H G (bodyL Φ) { nx := fun _ H' => Q .non H', rt := Q } := by
  have fin : ∀ t G' v H', rtF Φ t G' → Rel K H' v t → HRel K [(H, G)] H' G' → Q v H' := fun t G' v H' ⟨G2, s, q⟩ r g =>
    k t G2 v H' q r (g.sub s).nil ((g.hist _ (List.mem_singleton.mpr rfl)).sub s)
  exact ⟨fun S' G' σ' H' q _ g _ => fin _ _ _ _ q .non g, fun t G' v H' q r g _ => fin _ _ _ _ q r g, fun _ _ _ _ q => q.elim, fun _ _ _ _ q => q.elim⟩
section
variable {P : Program} {w : World} {K : Fr0} {mg : Str → Option Value} {base : Heap} {x qual : Str} {st : Stmt} {f : Addr} {fd : FuncData} {N ps : List Str} {k : Nat} {sp : Sp2}
/-- a body's context -/
abbrev bx (P : Program) (w : World) (K : Fr0) (mg : Str → Option Value) (base : Heap) (N : List Str) (qual : Str) (scope : Scope) (f : Addr) (cdv : Value) (A : Around) (outer : List Env) (s : Shared) (H : Hp) (E : XK) : Cx :=
  cxOf (L2.CX P w) P w K mg base N qual scope f cdv A outer s H E
/-- what of an exception may be let out -/
abbrev OutX (K : Fr0) (H : Hp) (G : Gp) (E2 : XK2) (E : XK) : Prop := ∀ C fs G' H' cls d, E2 C fs G' → ERel K H' cls d C fs → HRel K [] H' G' → Step H G H' G' → E cls d H'
abbrev BodyOk (P : Program) (w : World) (K : Fr0) (mg : Str → Option Value) (base : Heap) (N : List Str) (qual : Str) (scope : Scope) (f : Addr) (k : Nat) (body : List Stmt) (sp : Sp2) : Prop :=
  ∀ (cdv : Value) (A : Around) (outer : List Env) (s : Shared) (H : Hp) (E : XK) (ts : List T) (G : Gp) (Φ : QT) (ΦE : XK2), Room k (A.deeper (envOfC qual scope s.heap.objs.size f cdv)) → OutX K H G ΦE E → sp ts G Φ ΦE →
    ∃ l, Ess [(H, G)] (bx P w K mg base N qual scope f cdv A outer s H E) body l ∧ l (bodyL Φ) (slots0 N ts) G
theorem body_run {scope : Scope} {body : List Stmt} (hbody : BodyOk P w K mg base N qual scope f k body sp) (cdv : Value) (A : Around) (outer : List Env) (s : Shared) (H : Hp) (vs : List V) (Q : VK) (E : XK)
    (hr : Room k (A.deeper (envOfC qual scope s.heap.objs.size f cdv))) (h : lowSp K sp vs H Q E) :
    ∃ t, PSs (bx P w K mg base N qual scope f cdv A outer s H E) body t ∧ t { nx := fun _ H' => Q .non H', rt := Q } (L2.start N vs) H := by
  obtain ⟨ts, G, Φ, ΦE, r, g, q, k1, k2⟩ := h
  obtain ⟨l, b, q2⟩ := hbody cdv A outer s H E ts G Φ ΦE hr k2 q
  exact ⟨_, b, slots0 N ts, G, bodyL Φ, srel_start r, g.enter, q2, ends_body k1⟩
theorem lowSp_len (len : ∀ ts G Φ ΦE, sp ts G Φ ΦE → ts.length = ps.length) : ∀ vs H Q E, lowSp K sp vs H Q E → vs.length = ps.length := fun vs H Q E ⟨ts, G, Φ, ΦE, r, _, q, _⟩ => r.length.trans (len _ _ _ _ q)
theorem fn_T (F : Fun K x qual st f fd) (S : FnScope N ps (defScope st)) (len : ∀ ts G Φ ΦE, sp ts G Φ ΦE → ts.length = ps.length) (hbody : BodyOk P w K mg base N qual (defScope st) f k (defBody st) sp) :
    FnOk P w K mg base (L2.CX P w) (k + 1) f fd ps (lowSp K sp) := F.okX S (lowSp_len len) fun cdv A outer s H vs Q E hr h => body_run hbody cdv A outer s H vs Q E hr h
theorem fn_TD {params : Arguments} {body : List Stmt} {scope : Scope} {dvs : List V} {kws : List (Str × V)} (F : FunD K x qual params body scope dvs kws f fd) (S : FnScope N ps scope) (len : ∀ ts G Φ ΦE, sp ts G Φ ΦE → ts.length = ps.length)
    (hbody : BodyOk P w K mg base N qual scope f k body sp) : FnOk P w K mg base (L2.CX P w) (k + 1) f fd ps (lowSp K sp) := F.ok S (lowSp_len len) fun cdv A outer s H vs Q E hr h => body_run hbody cdv A outer s H vs Q E hr h
/-- another promise -/
theorem FnOk.impT {CX : CXT} {sp' : Sp2} (F : FnOk P w K mg base CX k f fd ps (lowSp K sp)) (h : ∀ ts G Φ ΦE, sp' ts G Φ ΦE → sp ts G Φ ΦE) : FnOk P w K mg base CX k f fd ps (lowSp K sp') :=
  F.imp fun vs H Q E ⟨ts, G, Φ, ΦE, r, g, q, a, b⟩ => ⟨ts, G, Φ, ΦE, r, g, h _ _ _ _ q, a, b⟩
end
theorem Sub.gup {G : Gp} {a : Addr} {o : O} (h : G a = none) : Sub G (gup G a o) := fun b u e => by
  rw [gup_ne (fun z => by rw [z, h] at e; cases e)]
  exact e
theorem Sub.trans {G G1 G2 : Gp} (a : Sub G G1) (b : Sub G1 G2) : Sub G G2 := fun x o e => b x o (a x o e)
/-- what is new is kept, what was made ahead is forgotten -/
theorem Sub.gup2 {G G' : Gp} {a : Addr} {o : O} (h : Sub G G') : Sub (Dv.gup G a o) (Dv.gup G' a o) := fun b u e => by
  by_cases z : b = a
  · subst z; rw [gup_same] at e ⊢; exact e
  · rw [gup_ne z] at e ⊢; exact h b u e
theorem rtF.of {Φ : QT} {t : T} {G : Gp} (h : Φ t G) : rtF Φ t G := ⟨G, Sub.refl G, h⟩
theorem rtF.sub {Φ : QT} {t : T} {G G' : Gp} (s : Sub G G') (h : Φ t G) : rtF Φ t G' := ⟨G, s, h⟩
theorem rtF.up {Φ : QT} {t : T} {G G' : Gp} (h : rtF Φ t G) (s : Sub G G') : rtF Φ t G' := let ⟨G0, s0, q⟩ := h; ⟨G0, s0.trans s, q⟩

/-! ### globals, classes as values, isinstance -/
section
variable {X : Cx} {CX : CXT} {a b c e o iter tg elt kx vx : Expr} {es ifs : List Expr} {la lb lv te tk tv : LE} {tt : LT} {l lk : LA} {pos p p2 apos cpos spos py : Pos} {k n : Nat} {x m y : Str} {w : LI} {f : T → S2 → Option S2} {vs : List Nat} {scope : Scope} {own : List (Str × Nat)}
def lGlob (t : T) : LE := fun _ G Φ => Φ t G
/-- a name of the module, or of the built-ins, whose value stands -/
theorem e_glob {t : T} {v : V} {u : Value} (r : ∀ H, Rel X.K H v t) (hg : Gl X x := by rfl) (hm : X.mg x = some u) (rv : RelV v u) (hd : (x == ("__debug__" : Str)) = false := by decide) : E en X (.Name x pos) (lGlob t) :=
  PE.weak (pe_glob hg hm rv hd) fun σ H Q ⟨S, G, Φ, s, g, q, k⟩ => k t G v H q (r H) g (Step.refl H G)
end
end Dv
namespace Dv
open PySem PySem.Spec PyProof.Rows L2
section
variable {X : Cx} {CX : CXT} {a b c e o iter tg elt kx vx : Expr} {es ifs : List Expr} {la lb lv te tk tv : LE} {tt : LT} {l lk : LA} {pos p p2 apos cpos spos py : Pos} {k n : Nat} {x m y : Str} {w : LI} {f : T → S2 → Option S2} {vs : List Nat} {scope : Scope}
/-! ### comprehensions -/
def slotsOf (own : List (Str × Nat)) : List Nat := own.map fun z => z.2
theorem slotsOf_nil : slotsOf [] = [] := rfl
theorem slotsOf_cons {p : Str × Nat} {r : List (Str × Nat)} : slotsOf (p :: r) = p.2 :: slotsOf r := rfl
abbrev AtBlk (X : Cx) (scope : Scope) (P : Cx → Prop) : Prop := ∀ (s : Shared) (H : Hp) (C : Addr) (cl : List (Str × Addr)) (fp : List Addr), P (X.blk s H scope (compEnvC scope cl C X.env) fp)
theorem e_lc (own : List (Str × Nat)) (hN : X.N.Nodup) (hi : Ei en X tg iter w) (hg : AtBlk X scope fun Y => Eg Y tg f (slotsOf own)) (ht : AtBlk X scope fun Y => Ets en Y ifs tt) (he : AtBlk X scope fun Y => E en Y elt te)
    (hc : X.calm = true := by rfl) (ok : blkC X.N X.env.scope scope own = true := by rfl) (hs : ∀ x, foldedSetIterable iter X.env x = pure x := by intro _; rfl) :
    E en X (.ListComp elt [⟨tg, iter, ifs, 0⟩] scope pos) (lLc w f (slotsOf own) tt te) :=
  PE.weak (pe_lc (g := lowN X.K f (slotsOf own)) (tt := lowT X.K en tt) (te := low X.K en te) hc hN hi (blkOk_by ok) hg ht he hs) low_lc
theorem s_setLc (own : List (Str × Nat)) {j : Nat} (hN : X.N.Nodup) (hi : Ei en X tg iter w) (hg : AtBlk X scope fun Y => Eg Y tg f (slotsOf own)) (ht : AtBlk X scope fun Y => Ets en Y ifs tt) (he : AtBlk X scope fun Y => E en Y elt te)
    (hy : X.N[j]? = some y := by rfl) (hyl : X.env.scope.names.lookup y = some .local := by rfl) (hc : X.calm = true := by rfl) (ok : blkC X.N X.env.scope scope own = true := by rfl) (hs : ∀ x, foldedSetIterable iter X.env x = pure x := by intro _; rfl)
    (hsw : swapsWith (.ListComp elt [⟨tg, iter, ifs, 0⟩] scope pos) (some (.Name y py)) spos.line X.env = pure true := by rfl) :
    Es en X (.Assign [.Name y py] (.ListComp elt [⟨tg, iter, ifs, 0⟩] scope pos) spos) (lAsg (lLc w f (slotsOf own) tt te) (gN j)) :=
  PS.weak (ps_setLc (g := lowN X.K f (slotsOf own)) (tt := lowT X.K en tt) (te := low X.K en te) (i := j) hc hN hy hyl hsw hi (blkOk_by ok) hg ht he hs) fun D σ H ⟨S, G, L, s, g, q, ends⟩ => by
    refine low_lc σ H _ ⟨S, G, _, s, g, q, fun t G1 v H1 q1 r1 g1 s1 => ?_⟩
    simp only [gN] at q1
    exact ends.nx _ G1 _ H1 q1 ((s.stay (s1.stay g)).set r1 j) g1 s1
theorem e_dc (own : List (Str × Nat)) (hN : X.N.Nodup) (hi : Ei en X tg iter w) (hg : AtBlk X scope fun Y => Eg Y tg f (slotsOf own)) (ht : AtBlk X scope fun Y => Ets en Y ifs tt) (hk : AtBlk X scope fun Y => E en Y kx tk) (hv : AtBlk X scope fun Y => E en Y vx tv)
    (hc : X.calm = true := by rfl) (ok : blkC X.N X.env.scope scope own = true := by rfl) (hs : ∀ x, foldedSetIterable iter X.env x = pure x := by intro _; rfl) :
    E en X (.DictComp kx vx [⟨tg, iter, ifs, 0⟩] scope pos) (lDc w f (slotsOf own) tt tk tv) :=
  PE.weak (pe_dc (g := lowN X.K f (slotsOf own)) (tt := lowT X.K en tt) (tk := low X.K en tk) (tv := low X.K en tv) hc hN hi (blkOk_by ok) hg ht hk hv hs) low_dc

/-! ### isinstance, one built-in type -/
def tyS (t : T) (G : Gp) : Option String := match t with
  | .non => some "NoneType" | .bl _ => some "bool" | .int _ => some "int" | .str _ => some "str" | .tup _ => some "tuple" | .ty _ => none | .ptup _ => some "tuple"
  | .ref a => match G a with
    | some (.lst _) => some "list"
    | some (.dic _) => some "dict"
    | some (.fdic _ _ _) => some "dict"
    | _ => none
def subS (a b : String) : Bool := a == b || (a == "bool" && b == "int")
def tysS : List String := ["bool", "int", "str", "tuple", "list", "dict"]
theorem kit_sub {m n : String} (hm : m ∈ "NoneType" :: tysS) (hn : n ∈ tysS) : kitB m n = some (subS m n) := by
  have h : ∀ m ∈ "NoneType" :: tysS, ∀ n ∈ tysS, kitB m n = some (subS m n) := by decide +kernel
  exact h m hm n hn
theorem tyS_ok {K : Fr0} {H : Hp} {G : Gp} {t : T} {v : V} {m : String} (g : HRel K en H G) (r : Rel K H v t) (h : tyS t G = some m) : TyX K H v (.type m) ∧ m ∈ "NoneType" :: tysS := by
  cases r with
  | non => cases h; exact ⟨.base .non, by decide⟩
  | bl b => cases h; exact ⟨.base (.bl b), by decide⟩
  | int i => cases h; exact ⟨.base (.int i), by decide⟩
  | str x => cases h; exact ⟨.base (.str x), by decide⟩
  | ty n => cases h
  | tup q _ =>
    cases h
    refine ⟨?_, by decide⟩
    rcases q with (q | ⟨o, q⟩) | ⟨o, its, n, q, c, _⟩
    · exact .base (.tup q)
    · exact .fTuple q
    · exact .kTuple q c
  | ptup q _ _ => cases h; exact ⟨.fTuple q, by decide⟩
  | ref a =>
    simp only [tyS] at h
    split at h
    · rename_i xs e
      cases h
      obtain ⟨vs, h1, _⟩ := g.obj _ _ e
      exact ⟨.base (.lst h1), by decide⟩
    · rename_i xs e
      cases h
      obtain ⟨vs, h1, _⟩ := g.obj _ _ e
      exact ⟨.base (.dK h1), by decide⟩
    · rename_i ob vs xs e
      cases h
      obtain ⟨h1, _⟩ := g.obj _ _ e
      exact ⟨.fDict h1, by decide⟩
    · cases h
def isiT : RLT := fun ts G Φ => match ts with
  | [t, .ty n] => n ∈ tysS ∧ (match tyS t G with
    | some m => Φ (.bl (subS m n)) G
    | none => False)
  | _ => False
theorem b_isi : CallR X (.builtin "isinstance") (lowC X.K en isiT) := by
  intro pins s σ H xs us Q I r ⟨ts, G, Φ, rs, g, q, kk⟩
  unfold isiT at q
  split at q
  · rename_i t n
    obtain ⟨hn, q⟩ := q
    split at q
    · rename_i m e
      cases rs with
      | cons r1 r2 =>
        cases r2 with
        | cons r2 r3 =>
          cases r2
          cases r3
          obtain ⟨h1, h2⟩ := tyS_ok g r1 e
          exact call_isi pins s σ H _ us Q I r ⟨_, _, _, _, _, rfl, .ty n, h1, kit_ty (kit_sub h2 hn), kk _ _ _ _ q (.bl _) g (Step.refl H G)⟩
    · exact q.elim
  · exact q.elim
/-- a built-in type's name as a value -/
theorem e_ty {n : String} (hg : Gl X x := by rfl) (hm : X.mg x = none) (hv : bootBuiltins x = some (.type n) := by rfl) (hn : x ≠ "__name__" := by decide) (hd : (x == ("__debug__" : Str)) = false := by decide) : E en X (.Name x pos) (lGlob (.ty n)) :=
  PE.weak (pe_bltn (v := .ty n) hg hm hv rfl hn hd) fun σ H Q ⟨S, G, Φ, s, g, q, k⟩ => k (.ty n) G (.ty n) H q (.ty n) g (Step.refl H G)

/-! ### {k: v, ..} -/
abbrev LPs := S2 → Gp → (List (T × T) → Gp → Prop) → Prop
def lDisp (lp : LPs) : LE := fun S G Φ => lp S G fun ps G1 => (ps.all fun kv => (keyT kv.1).isSome) = true ∧ ps.length ≤ 15 ∧ ∀ a, G1 a = none → Φ (.ref a) (gup G1 a (.dic (dmerge [] ps)))
def lPNil : LPs := fun _ G Φ => Φ [] G
def lPCons (lk lv : LE) (lr : LPs) : LPs := fun S G Φ => lk S G fun t G1 => lv S G1 fun u G2 => lr S G2 fun ps G3 => Φ ((t, u) :: ps) G3
inductive RelP (K : Fr0) (H : Hp) : List (V × V) → List (T × T) → Prop
  | nil : RelP K H [] []
  | cons {x y : V} {t u : T} {ps : List (V × V)} {qs : List (T × T)} : Rel K H x t → Rel K H y u → RelP K H ps qs → RelP K H ((x, y) :: ps) ((t, u) :: qs)
theorem RelP.stay {K : Fr0} {H H' : Hp} (st : Stay K H H') : ∀ {vs : List (V × V)} {ts : List (T × T)}, RelP K H vs ts → RelP K H' vs ts
  | _, _, .nil => .nil
  | _, _, .cons r r2 t => .cons (r.stay st) (r2.stay st) (RelP.stay st t)
theorem RelP.keys {K : Fr0} {H : Hp} : ∀ {vs : List (V × V)} {ts : List (T × T)}, RelP K H vs ts → (ts.all fun kv => (keyT kv.1).isSome) = true → ∃ kvs : List (Key × V), vs = kvs.map (fun kv => (kV kv.1, kv.2)) ∧ RelD K H kvs ts
  | _, _, .nil, _ => ⟨[], rfl, .nil⟩
  | _, _, .cons (y := y) r r2 t, h => by
    rw [List.all_cons, Bool.and_eq_true] at h
    obtain ⟨k0, ek⟩ := Option.isSome_iff_exists.mp h.1
    have eu := keyT_kT ek
    simp only at eu
    subst eu
    obtain ⟨kvs, e, q⟩ := RelP.keys t h.2
    exact ⟨(k0, y) :: kvs, by rw [e, r.key]; rfl, .cons r2 q⟩
theorem RelP.length {K : Fr0} {H : Hp} : ∀ {vs : List (V × V)} {ts : List (T × T)}, RelP K H vs ts → vs.length = ts.length
  | _, _, .nil => rfl
  | _, _, .cons _ _ t => congrArg Nat.succ (RelP.length t)
def lowP (K : Fr0) (en : En) (lp : LPs) (σ : L2.St) (H : Hp) (Q : List (V × V) → Hp → Prop) : Prop := ∃ S G Φ, SRel K H σ S ∧ HRel K en H G ∧ lp S G Φ ∧ ∀ ps G' vs H', Φ ps G' → RelP K H' vs ps → HRel K en H' G' → Step H G H' G' → Q vs H'
structure Ep (en : En) (X : Cx) (pos : Pos) (keys : List (Option Expr)) (values : List Expr) (lp : LPs) : Prop where
  ex : ∃ trs, PPs X pos keys values trs ∧ ∀ σ H Q, lowP X.K en lp σ H Q → tPairs trs σ H Q
theorem p_nil : Ep en X pos [] [] lPNil := ⟨[], pps_nil, fun σ H Q ⟨S, G, Φ, s, g, q, k⟩ => k [] G [] H q .nil g (Step.refl H G)⟩
theorem p_cons {ks : List (Option Expr)} {lr : LPs} (hk : E en X kx tk) (hv : E en X vx tv) (hr : Ep en X pos ks es lr) : Ep en X pos (some kx :: ks) (vx :: es) (lPCons tk tv lr) := by
  obtain ⟨trs, h, w⟩ := hr.ex
  refine ⟨(low X.K en tk, low X.K en tv) :: trs, pps_cons hk hv h, fun σ H Q ⟨S, G, Φ, s, g, q, k⟩ => ?_⟩
  refine ⟨S, G, _, s, g, q, fun t G1 v H1 q1 r1 g1 s1 => ?_⟩
  refine ⟨S, G1, _, s.stay (s1.stay g), g1, q1, fun u G2 y H2 q2 r2 g2 s2 => ?_⟩
  refine w _ _ _ ⟨S, G2, _, (s.stay (s1.stay g)).stay (s2.stay g1), g2, q2, fun ps G3 vs H3 q3 r3 g3 s3 => ?_⟩
  exact k _ G3 _ H3 q3 (.cons ((r1.stay (s2.stay g1)).stay (s3.stay g2)) (r2.stay (s3.stay g2)) r3) g3 ((s1.trans s2).trans s3)
theorem hen_of {K : Fr0} {H : Hp} {G : Gp} {D : Addr} (g : HRel K en H G) (hD : H D = none) : ∀ e ∈ en, e.1 D = none := by
  intro e he
  cases z : e.1 D with
  | none => rfl
  | some u =>
    obtain ⟨u', e'⟩ := (g.hist e he).al D u z
    rw [hD] at e'
    cases e'
theorem e_disp {keys : List (Option Expr)} {lp : LPs} (h : Ep en X pos keys es lp) (hall : keys.all (·.isSome) = true := by rfl) (hl : keys.length = es.length := by rfl) (h0 : keys ≠ [] := by simp) (h15 : keys.length ≤ 15 := by decide) :
    E en X (.Dict keys es pos) (lDisp lp) := by
  obtain ⟨trs, hp, wk⟩ := h.ex
  refine PE.weak (pe_disp hp hall hl h0 h15) fun σ H Q ⟨S, G, Φ, s, g, q, k⟩ => ?_
  intro D hD
  obtain ⟨g1, t1, st1⟩ := g.laid (ho := .dK []) hD
  have no1 : ¬ Own (L2.upd H D (.dK [])) G D := fun z => not_own_new g hD ((own_upd (not_own_new g hD)).mp z)
  refine wk _ _ _ ⟨S, G, _, s.stay st1, g1, q, fun ps G2 vs H2 q2 r2 g2 s2 => ?_⟩
  obtain ⟨hk, hl15, q2⟩ := q2
  obtain ⟨hD2, no2⟩ := s2.fr D _ upd_same no1
  obtain ⟨kvs, e, rk⟩ := r2.keys hk
  have gD : G2 D = none := by
    cases z : G2 D with
    | none => rfl
    | some u => exact absurd (.inl ⟨u, z⟩) no2
  have hen := hen_of g hD
  obtain ⟨g3, st3⟩ := g2.under (ho := .dK (mergeK [] kvs)) no2 hD2 rfl hen
  have no3 : ¬ Own (L2.upd H2 D (.dK (mergeK [] kvs))) G2 D := fun z => no2 ((own_upd no2).mp z)
  refine ⟨hD2, kvs, e, by rw [rk.length]; exact hl15, k _ _ _ _ (q2 D gD) (.ref D) (g3.adopt no3 (fun n z => by cases z) ⟨_, upd_same, (RelD.merge (rk.stay st3) .nil)⟩ hen) ?_⟩
  exact ((t1.trans s2).under hD no2).adopt hD (fun n z => by cases z)
theorem e_dict0 : E en X (.Dict [] [] pos) (fun _ G Φ => ∀ a, G a = none → Φ (.ref a) (gup G a (.dic []))) := PE.weak pe_dnewK fun σ H Q ⟨S, G, Φ, s, g, q, k⟩ p hp => by
  obtain ⟨g2, s2⟩ := dic_laid g hp .nil
  exact k _ _ _ _ (q p (g.fresh hp)) (.ref p) g2 s2
end
end Dv
namespace Dv
open PySem PySem.Spec PyProof.Rows L2
section
variable {X : Cx} {CX : CXT} {a b c e o e1 : Expr} {es ifs : List Expr} {la lb lv lx : LE} {l lk : LA} {pos p p2 apos cpos spos py : Pos} {k n : Nat} {x m y : Str} {fd : FuncData} {f C : Addr} {ps ks : List Str} {sp : Sp2} {E2 : XK2} {kws : List Keyword} {g : List Value → List Value → List Value} {gV : List V → List V → List V} {gT : List T → List T → List T}
abbrev GoodT (K : Fr0) (gV : List V → List V → List V) (gT : List T → List T → List T) : Prop := ∀ H vs ts ws us, RelL K H vs ts → RelL K H ws us → RelL K H (gV vs ws) (gT ts us)
/-- f(e, .., k = v, ..), defaults behind -/
def lCallN (n m : Nat) (sp : Sp2) (gT : List T → List T → List T) (E2 : XK2) (l lk : LA) : LE := fun S G Φ => l S G fun ts G1 => lk S G1 fun us G2 => ts.length = n ∧ us.length = m ∧ sp (gT ts us) G2 Φ E2
theorem e_callN (F : FnOk X.prog X.w X.K X.mg X.base CX k f fd ps (lowSp X.K sp)) (hr : Room k X.A) (hm : X.mg x = some (.ref f)) (hk : PySem.W.keepIn X.K (.ref f) = true)
    (hb : KBn X.K fd ps n ks g gV) (hgT : GoodT X.K gV gT) (hx : Passes CX X (lowX X.K en E2))
    (ha : Ea en X (e :: es) l) (hkw : Ek en X kws lk) (hg : Gl X x := by rfl) (hall : (backToKw pos (keywordEach kws X.env)).all (·.1.isSome) = true := by rfl) (hks : (backToKw pos (keywordEach kws X.env)).filterMap (·.1) = ks := by rfl)
    (hdb : (x == ("__debug__" : Str)) = false := by decide) (he : starEach (e :: es) X.env = (false, eval e X.env) :: starEach es X.env := by rfl)
    (hpl : ((backTo pos (starEach (e :: es) X.env)).any (·.1) || (backToKw pos (keywordEach kws X.env)).any (·.1.isNone)) = false := by rfl) :
    E en X (.Call (.Name x p) (e :: es) kws pos) (lCallN n ks.length sp gT E2 l lk) := by
  refine PE.weak (pe_callN F hr hg hm hk hb hx ha hkw hall hks hdb he hpl) fun σ H Q ⟨S, G, Φ, s, g, q, kk⟩ => ?_
  refine ⟨S, G, _, s, g, q, fun ts G1 vs H1 q1 r1 g1 s1 => ?_⟩
  refine ⟨S, G1, _, s.stay (s1.stay g), g1, q1, fun us G2 ws H2 q2 r2 g2 s2 => ?_⟩
  refine ⟨by rw [r1.length]; exact q2.1, by rw [r2.length]; exact q2.2.1, gT ts us, G2, Φ, E2, hgT _ _ _ _ _ (r1.stay (s2.stay g1)) r2, g2.nil, q2.2.2, fun t G' v H' a b c d => kk t G' v H' a b (g2.back c d) ((s1.trans s2).trans d), fun C fs G' H' cls d a b c d' => ⟨C, fs, G', a, b, g2.back c d'⟩⟩
/-- C(e, .., k = v, ..) -/
def lMakeK (C : Addr) (n m : Nat) (sp : Sp2) (gT : List T → List T → List T) (E2 : XK2) (l lk : LA) : LE := fun S G Φ => l S G fun ts G1 => lk S G1 fun us G2 => ts.length = n ∧ us.length = m ∧ ∀ x, G2 x = none → sp (gT (.ref x :: ts) us) (gup G2 x (.ins C [])) (fun t G3 => t = .non ∧ Φ (.ref x) G3) E2
theorem e_makeK (M : Mk X.K C f) (F : FnOk X.prog X.w X.K X.mg X.base CX k f fd ps (lowSp X.K sp)) (hr : Room (k + 1) X.A) (hm : X.mg x = some (.ref C)) (hb : KBn X.K fd ps (n + 1) ks g gV) (hgT : GoodT X.K gV gT) (hx : Passes CX X (lowX X.K en E2))
    (ha : Ea en X (e :: es) l) (hkw : Ek en X kws lk) (hg : Gl X x := by rfl) (hall : (backToKw pos (keywordEach kws X.env)).all (·.1.isSome) = true := by rfl) (hks : (backToKw pos (keywordEach kws X.env)).filterMap (·.1) = ks := by rfl)
    (hdb : (x == ("__debug__" : Str)) = false := by decide) (he : starEach (e :: es) X.env = (false, eval e X.env) :: starEach es X.env := by rfl)
    (hpl : ((backTo pos (starEach (e :: es) X.env)).any (·.1) || (backToKw pos (keywordEach kws X.env)).any (·.1.isNone)) = false := by rfl) :
    E en X (.Call (.Name x p) (e :: es) kws pos) (lMakeK C n ks.length sp gT E2 l lk) := by
  refine PE.weak (pe_makeK M F hr hg hm hb hx ha hkw hall hks hdb he hpl) fun σ H Q ⟨S, G, Φ, s, g, q, kk⟩ => ?_
  refine ⟨S, G, _, s, g, q, fun ts G1 vs H1 q1 r1 g1 s1 => ?_⟩
  refine ⟨S, G1, _, s.stay (s1.stay g), g1, q1, fun us G2 ws H2 q2 r2 g2 s2 => ⟨by rw [r1.length]; exact q2.1, by rw [r2.length]; exact q2.2.1, fun y dy h1 h2 hne => ?_⟩⟩
  obtain ⟨g3, s3⟩ := made (C := C) g2 h1 h2 hne
  have st := s3.stay g2
  refine ⟨_, _, _, E2, hgT _ _ _ _ _ (.cons (.ref y) ((r1.stay (s2.stay g1)).stay st)) (r2.stay st), g3.nil, q2.2.2 y (g2.fresh h1), fun t G' v H' a b c d => ?_, fun C fs G' H' cls d a b c d' => ⟨C, fs, G', a, b, g3.back c d'⟩⟩
  obtain ⟨e1, a⟩ := a
  subst e1
  cases b
  exact ⟨rfl, kk _ G' _ H' a (.ref y) (g3.back c d) (((s1.trans s2).trans s3).trans d)⟩

/-! ### methods -/
def insT : RMT := fun t ts G Φ => match t, ts with
  | .ref a, [.int i, u] => (match G a with
    | some (.lst xs) => xs.length < sizeLine ∧ (0 ≤ i ∧ i < 2 ^ 63) ∧ Φ .non (gup G a (.lst (xs.take i.toNat ++ [u] ++ xs.drop i.toNat)))
    | _ => False)
  | _, _ => False
theorem m_insert : MtR X "list.insert" (lowM X.K en insT) := by
  refine MtR.weak mt_insert fun x xs H Q ⟨t, ts, G, Φ, rt, rs, g, q, kk⟩ => ?_
  unfold insT at q
  split at q
  · split at q
    · rename_i xs e1
      cases rt
      cases rs with
      | cons r1 r2 =>
        cases r1
        cases r2 with
        | cons r2 r4 =>
          cases r4
          obtain ⟨vs, h1, r3⟩ := g.obj _ _ e1
          obtain ⟨g2, s2, _⟩ := lst_upd g e1 (((r3.take _).app (.cons r2 .nil)).app (r3.drop _))
          exact ⟨_, vs, _, _, rfl, rfl, h1, by rw [r3.length]; exact q.1, q.2.1.1, q.2.1.2, kk _ _ _ _ q.2.2 .non g2 s2⟩
    · exact q.elim
  · exact q.elim
/-- the texts of a tuple -/
def strsT : List T → Option (List Str)
  | [] => some []
  | .str s :: r => (match strsT r with
    | some ss => some (s :: ss)
    | none => none)
  | _ => none
theorem strsT_map : ∀ {ts : List T} {ss : List Str}, strsT ts = some ss → ts = ss.map T.str
  | [], _, e => by cases e; rfl
  | t :: r, _, e => by
    cases t <;> simp only [strsT, reduceCtorEq] at e
    split at e
    · rename_i ss e2
      cases e
      rw [strsT_map e2]; rfl
    · cases e
theorem strsT_of (ss : List Str) : strsT (ss.map T.str) = some ss := by
  induction ss with
  | nil => rfl
  | cons s r ih => simp only [List.map_cons, strsT, ih]
/-- t.index(x): the first place -/
def tixT : RMT := fun t ts G Φ => match t, ts with
  | .tup xs, [.str z] => (match strsT xs with
    | some ys => z ∈ ys ∧ Φ (.int (ys.idxOf z : Nat)) G
    | none => False)
  | _, _ => False
theorem m_tindex : MtR X "tuple.index" (lowM X.K en tixT) := by
  refine MtR.weak mt_tup_index fun x xs H Q ⟨t, ts, G, Φ, rt, rs, g, q, kk⟩ => ?_
  unfold tixT at q
  split at q
  · rename_i xs z
    split at q
    · rename_i ys e1
      obtain ⟨hz, q⟩ := q
      cases rt with
      | tup sq r3 =>
        cases rs with
        | cons r1 r2 =>
          cases r1
          cases r2
          have e2 := strsT_map e1
          subst e2
          have e3 := r3.strs
          subst e3
          refine ⟨_, ys, z, ys.idxOf z, rfl, rfl, sq, ?_, fun m hm e => ?_, kk _ _ _ _ q (.int _) g (Step.refl H G)⟩
          · have hl := List.idxOf_lt_length_of_mem hz
            rw [List.getElem?_eq_getElem hl]
            exact congrArg some (List.getElem_idxOf hl)
          · obtain ⟨h1, h2⟩ := List.getElem?_eq_some_iff.mp e
            have h3 := List.not_of_lt_findIdx (p := (· == z)) (xs := ys) (i := m) (by exact hm)
            rw [h2] at h3
            simp at h3
    · exact q.elim
  · exact q.elim
/-! d.get(k), d.get(k, x) -/
def getT (t u : T) (G : Gp) (Ψ : Option T → Prop) : Prop := match t with
  | .ref a => (match G a with
    | some (.dic kvs) => (match keyT u with
      | some _ => Ψ (dlook kvs u)
      | none => False)
    | some (.fdic _ _ kvs) => (match keyT u with
      | some _ => Ψ (dlook kvs u)
      | none => False)
    | _ => False)
  | _ => False
def isDT (t : T) (G : Gp) : Prop := match t with
  | .ref a => (match G a with
    | some (.dic _) => True
    | some (.fdic _ _ _) => True
    | _ => False)
  | _ => False
def lGet1 (ld lk : LE) : LE := fun S G Φ => ld S G fun t G1 => isDT t G1 ∧ lk S G1 fun u G2 => getT t u G2 fun r => Φ (r.getD .non) G2
def lGet2 (ld lk lx : LE) : LE := fun S G Φ => ld S G fun t G1 => isDT t G1 ∧ lk S G1 fun u G2 => lx S G2 fun z G3 => getT t u G3 fun r => Φ (r.getD z) G3
theorem isDT_ok {K : Fr0} {H : Hp} {G : Gp} {t : T} {v : V} (g : HRel K en H G) (r : Rel K H v t) (h : isDT t G) : ∃ a, v = .ref a ∧ t = .ref a ∧ IsD H a := by
  cases r with
  | ref a =>
    simp only [isDT] at h
    split at h
    · rename_i kvs e
      obtain ⟨vs, h1, _⟩ := g.obj _ _ e
      exact ⟨a, rfl, rfl, .inl ⟨vs, .inl h1⟩⟩
    · rename_i ob vs kvs e
      obtain ⟨h1, _⟩ := g.obj _ _ e
      exact ⟨a, rfl, rfl, .inl ⟨vs, .inr ⟨ob, h1⟩⟩⟩
    · exact h.elim
  | _ => exact h.elim
theorem getT_ok {K : Fr0} {H : Hp} {G : Gp} {a : Addr} {u : T} {w : V} {Ψ : Option T → Prop} (g : HRel K en H G) (r : Rel K H w u) (h : getT (.ref a) u G Ψ) : ∃ r o, Ψ r ∧ DGet H a w o ∧ ((r = none ∧ o = none) ∨ ∃ t v, r = some t ∧ o = some v ∧ Rel K H v t) := by
  simp only [getT] at h
  have fin : ∀ {kvs : List (Key × V)} {ts : List (T × T)}, Rd H a (.dK kvs) → RelD K H kvs ts → (match keyT u with
      | some _ => Ψ (dlook ts u)
      | none => False) → ∃ r o, Ψ r ∧ DGet H a w o ∧ ((r = none ∧ o = none) ∨ ∃ t v, r = some t ∧ o = some v ∧ Rel K H v t) := by
    intro kvs ts h1 rd h
    split at h
    · rename_i k0 ek
      have eu := keyT_kT ek
      subst eu
      have ew := r.key
      subst ew
      refine ⟨_, _, h, .inl ⟨kvs, k0, h1, rfl, rfl⟩, ?_⟩
      rcases rd.look (k := k0) with ⟨e1, e2⟩ | ⟨t, v, e1, e2, e3⟩
      · exact .inl ⟨e1, e2⟩
      · exact .inr ⟨t, v, e1, e2, e3⟩
    · exact h.elim
  split at h
  · rename_i kvs e
    obtain ⟨vs, h1, rd⟩ := g.obj _ _ e
    exact fin (.inl h1) rd h
  · rename_i ob vs kvs e
    obtain ⟨h1, rd⟩ := g.obj _ _ e
    exact fin (.inr ⟨ob, h1⟩) rd h
  · exact h.elim
theorem e_get1 (hu : X.A.units + 1 < cLine) (ho : E en X o la) (he : E en X e lb) (m : M1 X o "get" apos e cpos := by exact ⟨rfl, rfl, rfl, rfl⟩) : E en X (.Call (.Attribute o "get" apos) [e] [] cpos) (lGet1 la lb) := by
  refine PE.weak (pe_dget1 hu ho he m) fun σ H Q ⟨S, G, Φ, s, g, q, k⟩ => ?_
  refine ⟨S, G, _, s, g, q, fun t G1 v H1 q1 r1 g1 s1 => ?_⟩
  obtain ⟨a, rfl, rfl, hd⟩ := isDT_ok g1 r1 q1.1
  refine ⟨a, rfl, hd, S, G1, _, s.stay (s1.stay g), g1, q1.2, fun u G2 w H2 q2 r2 g2 s2 => ?_⟩
  obtain ⟨r, o, h1, h2, h3⟩ := getT_ok g2 r2 q2
  refine ⟨o, h2, ?_⟩
  rcases h3 with ⟨rfl, rfl⟩ | ⟨t, v, rfl, rfl, h3⟩
  · exact k _ _ _ _ h1 .non g2 (s1.trans s2)
  · exact k _ _ _ _ h1 h3 g2 (s1.trans s2)
theorem e_get2 (hu : X.A.units + 1 < cLine) (ho : E en X o la) (he : E en X e lb) (hf : E en X e1 lx) (m : M2 X o "get" apos e e1 cpos := by exact ⟨rfl, rfl, rfl, rfl⟩) : E en X (.Call (.Attribute o "get" apos) [e, e1] [] cpos) (lGet2 la lb lx) := by
  refine PE.weak (pe_dget2 hu ho he hf m) fun σ H Q ⟨S, G, Φ, s, g, q, k⟩ => ?_
  refine ⟨S, G, _, s, g, q, fun t G1 v H1 q1 r1 g1 s1 => ?_⟩
  obtain ⟨a, rfl, rfl, hd⟩ := isDT_ok g1 r1 q1.1
  refine ⟨a, rfl, hd, S, G1, _, s.stay (s1.stay g), g1, q1.2, fun u G2 w H2 q2 r2 g2 s2 => ?_⟩
  refine ⟨S, G2, _, (s.stay (s1.stay g)).stay (s2.stay g1), g2, q2, fun z G3 y H3 q3 r3 g3 s3 => ?_⟩
  obtain ⟨r, o, h1, h2, h3⟩ := getT_ok g3 (r2.stay (s3.stay g2)) q3
  refine ⟨o, h2, ?_⟩
  rcases h3 with ⟨rfl, rfl⟩ | ⟨t, v, rfl, rfl, h3⟩
  · exact k _ _ _ _ h1 r3 g3 ((s1.trans s2).trans s3)
  · exact k _ _ _ _ h1 h3 g3 ((s1.trans s2).trans s3)
/-! d.update(other) -/
theorem mt_dupdate : MtR X "dict.update" (fun x xs H Q => ∃ (a b : Addr) (kvs more : List (Key × V)), x = .ref a ∧ xs = [.ref b] ∧ a ≠ b ∧ H a = some (.dK kvs) ∧ H b = some (.dK more) ∧ kvs.length + more.length ≤ sizeLine ∧ Q .non (L2.upd H a (.dK (mergeK kvs more)))) := by
  intro pins s σ H x xs v us Q I rx rs h
  obtain ⟨a, b, kvs, more, rfl, rfl, hab, ha, hb, hz, q⟩ := h
  cases rx
  obtain ⟨u, rfl, hu⟩ := vals1 rs
  cases hu
  obtain ⟨z, hd, vs, rel, dd⟩ := dk_of I.hok ha
  obtain ⟨z2, hd2, vs2, rel2, dd2⟩ := dk_of I.hok hb
  refine call_meetsIn PySem.F.slot_dict_update dd.typeIs PySem.F.entry_dict_update (PySem.F.args_dict_update_2 _ _) (meets_dict_update (mixKind X.prog X.w) a b hab hd2) ⟨vs, vs2, dd, dd2, by rw [← rel.length, ← rel2.length]; exact hz, fun h' d1 d2 hs => ?_⟩
  have he : ∃ q, h'.get? a = some q := let ⟨q, _, _, hq, _⟩ := d1; ⟨q, hq⟩
  have hz' : (mergeK kvs more).length ≤ sizeLine := Nat.le_trans (length_mergeK more kvs) hz
  exact ⟨.non, _, d_write I (by rw [ha]; exact True.intro) hs he (dk_new hz' hd (rel2.merge rel) d1), rfl, q⟩
def updT : RMT := fun t ts G Φ => match t, ts with
  | .ref a, [.ref b] => (match G a, G b with
    | some (.dic kvs), some (.dic more) => a ≠ b ∧ kvs.length + more.length ≤ sizeLine ∧ Φ .non (gup G a (.dic (dmerge kvs more)))
    | _, _ => False)
  | _, _ => False
theorem dic_upd {K : Fr0} {H : Hp} {G : Gp} {p : Addr} {vs : List (Key × V)} {ts ts0 : List (T × T)} (g : HRel K en H G) (e : G p = some (.dic ts0)) (r : RelD K H vs ts) : HRel K en (L2.upd H p (.dK vs)) (gup G p (.dic ts)) ∧ Step H G (L2.upd H p (.dK vs)) (gup G p (.dic ts)) ∧ Stay K H (L2.upd H p (.dK vs)) :=
  g.upd (a := p) (ho := .dK vs) (o := .dic ts) (.inr ⟨_, e, fun n z => by cases z⟩) (fun n z => by cases z) ⟨vs, upd_same, RelD.stay (stayL g e (fun n z => by cases z)) r⟩
theorem m_update : MtR X "dict.update" (lowM X.K en updT) := by
  refine MtR.weak mt_dupdate fun x xs H Q ⟨t, ts, G, Φ, rt, rs, g, q, kk⟩ => ?_
  unfold updT at q
  split at q
  · split at q
    · rename_i xs ys e1 e2
      cases rt
      cases rs with
      | cons r1 r2 =>
        cases r1
        cases r2
        obtain ⟨vs, h1, r3⟩ := g.obj _ _ e1
        obtain ⟨ws, h2, r4⟩ := g.obj _ _ e2
        obtain ⟨g2, s2, _⟩ := dic_upd g e1 (RelD.merge r4 r3)
        exact ⟨_, _, vs, ws, rfl, rfl, q.1, h1, h2, by rw [r3.length, r4.length]; exact q.2.1, kk _ _ _ _ q.2.2 .non g2 s2⟩
    · exact q.elim
  · exact q.elim
end
end Dv
namespace Dv
open PySem PySem.Spec PyProof.Rows L2
/-! ### short words: a function, a method, a class that is known -/
section
variable {P : Program} {w : World} {K : Fr0} {mg : Str → Option Value} {base : Heap} {x : Str} {st : Stmt} {N ps : List Str} {k j : Nat} {sp : Sp2} {dts : List T}
/-- the def st of the text stands under its name -/
structure Df (K : Fr0) (mg : Str → Option Value) (x : Str) (st : Stmt) (ps : List Str) : Prop where
  ex : ∃ (f : Addr) (fd : FuncData), Fun K x x st f fd ∧ mg x = some (.ref f) ∧ Binds K fd ps []
/-- a function and its promise -/
structure Kn (P : Program) (w : World) (K : Fr0) (mg : Str → Option Value) (base : Heap) (k : Nat) (x : Str) (sp : Sp2) (dts : List T) : Prop where
  ex : ∃ (f : Addr) (fd : FuncData) (ps : List Str) (dvs : List V) (ds : List Value), FnOk P w K mg base (L2.CX P w) k f fd ps (lowSp K sp) ∧ mg x = some (.ref f) ∧ PySem.W.keepIn K (.ref f) = true ∧ Binds K fd ps ds ∧ Vals dvs ds ∧ ∀ H, RelL K H dvs dts
theorem Kn.mono (F : Kn P w K mg base j x sp dts) (h : j ≤ k) : Kn P w K mg base k x sp dts := by
  obtain ⟨f, fd, ps, dvs, ds, a, r⟩ := F.ex
  exact ⟨f, fd, ps, dvs, ds, a.mono h, r⟩
theorem Kn.imp {sp' : Sp2} (F : Kn P w K mg base k x sp dts) (h : ∀ ts G Φ ΦE, sp' ts G Φ ΦE → sp ts G Φ ΦE) : Kn P w K mg base k x sp' dts := by
  obtain ⟨f, fd, ps, dvs, ds, a, r⟩ := F.ex
  exact ⟨f, fd, ps, dvs, ds, FnOk.impT a h, r⟩
theorem kn_of (D : Df K mg x st ps) (S : FnScope N ps (defScope st)) (len : ∀ ts G Φ ΦE, sp ts G Φ ΦE → ts.length = ps.length) (hbody : ∀ f, BodyOk P w K mg base N x (defScope st) f k (defBody st) sp) : Kn P w K mg base (k + 1) x sp [] := by
  obtain ⟨f, fd, F, hm, hb⟩ := D.ex
  exact ⟨f, fd, ps, [], [], fn_T F S len (hbody f), hm, F.kp, hb, .nil, fun H => .nil⟩
end
section
variable {X : Cx} {a b c e o e1 : Expr} {es ifs : List Expr} {la lb lv lx : LE} {l lk : LA} {pos p p2 apos cpos spos py : Pos} {k n : Nat} {x m y : Str} {sp : Sp2} {dts : List T}
theorem e_kn (F : Kn X.prog X.w X.K X.mg X.base k x sp dts) (hr : Room k X.A) (ha : Ea en X (e :: es) l) (hg : Gl X x := by rfl) (hdb : (x == ("__debug__" : Str)) = false := by decide)
    (he : starEach (e :: es) X.env = (false, eval e X.env) :: starEach es X.env := by rfl) (hpl : (backTo pos (starEach es X.env)).any (·.1) = false := by rfl) : E en X (.Call (.Name x p) (e :: es) [] pos) (lCall sp dts noX l) := by
  obtain ⟨f, fd, ps, dvs, ds, a, hm, hk, hb, hd, hdt⟩ := F.ex
  exact e_call a hr hg hm hk hb hd hdt passN ha hdb he hpl
theorem e_kn0 (F : Kn X.prog X.w X.K X.mg X.base k x sp dts) (hr : Room k X.A) (hg : Gl X x := by rfl) (hdb : (x == ("__debug__" : Str)) = false := by decide) : E en X (.Call (.Name x p) [] [] pos) (lCall sp dts noX lNil) := by
  obtain ⟨f, fd, ps, dvs, ds, a, hm, hk, hb, hd, hdt⟩ := F.ex
  exact e_call0 a hr hg hm hk hb hd hdt passN hdb
/-! constants of the module -/
def GInt (mg : Str → Option Value) (x : Str) (i : Int) : Prop := ∃ t, mg x = some (.int i t)
def GStr (mg : Str → Option Value) (x : Str) (s : Str) : Prop := ∃ t, mg x = some (.str s t)
theorem e_gInt {i : Int} (h : GInt X.mg x i) (hg : Gl X x := by rfl) (hd : (x == ("__debug__" : Str)) = false := by decide) : E en X (.Name x pos) (lGlob (.int i)) := by
  obtain ⟨t, hm⟩ := h
  exact e_glob (v := .int i) (fun _ => .int i) hg hm ⟨t, rfl⟩ hd
theorem e_gStr {i : Str} (h : GStr X.mg x i) (hg : Gl X x := by rfl) (hd : (x == ("__debug__" : Str)) = false := by decide) : E en X (.Name x pos) (lGlob (.str i)) := by
  obtain ⟨t, hm⟩ := h
  exact e_glob (v := .str i) (fun _ => .str i) hg hm ⟨t, rfl⟩ hd
/-! built-ins in short -/
theorem b_lenE (hm : X.mg "len" = none) (ha : Ea en X [e] l) (hg : Gl X "len" := by rfl) (he : starEach [e] X.env = (false, eval e X.env) :: starEach [] X.env := by rfl) : E en X (.Call (.Name "len" p) [e] [] pos) (lCB lenT l) :=
  e_cb b_len hg hm rfl ha (he := he)
theorem b_absE (hm : X.mg "abs" = none) (ha : Ea en X [e] l) (hg : Gl X "abs" := by rfl) (he : starEach [e] X.env = (false, eval e X.env) :: starEach [] X.env := by rfl) : E en X (.Call (.Name "abs" p) [e] [] pos) (lCB absT l) :=
  e_cb b_abs hg hm rfl ha (he := he)
theorem b_intE (hm : X.mg "int" = none) (ha : Ea en X [e] l) (hg : Gl X "int" := by rfl) (he : starEach [e] X.env = (false, eval e X.env) :: starEach [] X.env := by rfl) : E en X (.Call (.Name "int" p) [e] [] pos) (lCB intCT l) :=
  e_ct b_int hg hm rfl ha (he := he)
theorem b_listE (hm : X.mg "list" = none) (ha : Ea en X [e] l) (hg : Gl X "list" := by rfl) (he : starEach [e] X.env = (false, eval e X.env) :: starEach [] X.env := by rfl) : E en X (.Call (.Name "list" p) [e] [] pos) (lCB listT l) :=
  e_ct b_list hg hm rfl ha (he := he)
theorem b_tupleE (hm : X.mg "tuple" = none) (ha : Ea en X [e] l) (hg : Gl X "tuple" := by rfl) (he : starEach [e] X.env = (false, eval e X.env) :: starEach [] X.env := by rfl) : E en X (.Call (.Name "tuple" p) [e] [] pos) (lCB tupCT l) :=
  e_ct b_tuple hg hm rfl ha (he := he)
theorem b_sortedE (hm : X.mg "sorted" = none) (ha : Ea en X [e] l) (hg : Gl X "sorted" := by rfl) (hc : X.calm = true := by rfl) (he : starEach [e] X.env = (false, eval e X.env) :: starEach [] X.env := by rfl) : E en X (.Call (.Name "sorted" p) [e] [] pos) (lCB sortT l) :=
  e_cb (b_sorted hc) hg hm rfl ha (he := he)
theorem b_dictE (hm : X.mg "dict" = none) (ha : Ea en X [e] l) (hg : Gl X "dict" := by rfl) (hc : X.calm = true := by rfl) (he : starEach [e] X.env = (false, eval e X.env) :: starEach [] X.env := by rfl) : E en X (.Call (.Name "dict" p) [e] [] pos) (lCB dictT l) :=
  e_ct (b_dict hc) hg hm rfl ha (he := he)
theorem b_isiE (hm : X.mg "isinstance" = none) (ha : Ea en X [e, e1] l) (hg : Gl X "isinstance" := by rfl) (he : starEach [e, e1] X.env = (false, eval e X.env) :: starEach [e1] X.env := by rfl) (hpl : (backTo pos (starEach [e1] X.env)).any (·.1) = false := by rfl) : E en X (.Call (.Name "isinstance" p) [e, e1] [] pos) (lCB isiT l) :=
  e_cb b_isi hg hm rfl ha (he := he) (hpl := hpl)
/-! methods in short -/
abbrev Few (X : Cx) (e : Expr) (es : List Expr) (cpos : Pos) : Prop := ((backTo cpos (starEach (e :: es) X.env)).all (fun x => !x.1) && (backToKw cpos (keywordEach [] X.env)).all (fun x => x.1.isSome)
      && decide ((e :: es).length + ([] : List Keyword).length + (if ([] : List Keyword).isEmpty then 0 else 1) < 30)) = true
theorem e_append (ho : E en X o la) (ha : Ea en X [e] l) (hbase : attributeBase o "append" X.env (eval o X.env) = eval o X.env := by rfl) (hfew : Few X e [] cpos := by rfl) (hline : (apos.endLine == cpos.line) = true := by rfl) (hs : starEach [e] X.env = (false, eval e X.env) :: starEach [] X.env := by rfl) :
    E en X (.Call (.Attribute o "append" apos) [e] [] cpos) (lBM "list" appT la l) := e_bm PySem.F.plainAttrs_list PySem.F.slot_list_append PySem.F.type_list_append m_append ho ha hbase hfew hline hs
theorem e_extend (ho : E en X o la) (ha : Ea en X [e] l) (hbase : attributeBase o "extend" X.env (eval o X.env) = eval o X.env := by rfl) (hfew : Few X e [] cpos := by rfl) (hline : (apos.endLine == cpos.line) = true := by rfl) (hs : starEach [e] X.env = (false, eval e X.env) :: starEach [] X.env := by rfl) :
    E en X (.Call (.Attribute o "extend" apos) [e] [] cpos) (lBM "list" extT la l) := e_bm PySem.F.plainAttrs_list PySem.F.slot_list_extend PySem.F.type_list_extend m_extend ho ha hbase hfew hline hs
theorem e_pop (ho : E en X o la) (ha : Ea en X [e] l) (hbase : attributeBase o "pop" X.env (eval o X.env) = eval o X.env := by rfl) (hfew : Few X e [] cpos := by rfl) (hline : (apos.endLine == cpos.line) = true := by rfl) (hs : starEach [e] X.env = (false, eval e X.env) :: starEach [] X.env := by rfl) :
    E en X (.Call (.Attribute o "pop" apos) [e] [] cpos) (lBM "list" popT la l) := e_bm PySem.F.plainAttrs_list PySem.F.slot_list_pop PySem.F.type_list_pop m_pop ho ha hbase hfew hline hs
theorem e_pop0 (ho : E en X o la) (hbase : attributeBase o "pop" X.env (eval o X.env) = eval o X.env := by rfl) (hline : (apos.endLine == cpos.line) = true := by rfl) :
    E en X (.Call (.Attribute o "pop" apos) [] [] cpos) (lBM "list" popT la lNil) := e_bm0 PySem.F.plainAttrs_list PySem.F.slot_list_pop PySem.F.type_list_pop m_pop ho hbase hline
theorem e_insert (ho : E en X o la) (ha : Ea en X [e, e1] l) (hbase : attributeBase o "insert" X.env (eval o X.env) = eval o X.env := by rfl) (hfew : Few X e [e1] cpos := by rfl) (hline : (apos.endLine == cpos.line) = true := by rfl) (hs : starEach [e, e1] X.env = (false, eval e X.env) :: starEach [e1] X.env := by rfl)
    (hp : (backTo cpos (starEach [e1] X.env)).any (·.1) = false := by rfl) :
    E en X (.Call (.Attribute o "insert" apos) [e, e1] [] cpos) (lBM "list" insT la l) := e_bm PySem.F.plainAttrs_list PySem.F.slot_list_insert PySem.F.type_list_insert m_insert ho ha hbase hfew hline hs hp
theorem e_tindex (ho : E en X o la) (ha : Ea en X [e] l) (hbase : attributeBase o "index" X.env (eval o X.env) = eval o X.env := by rfl) (hfew : Few X e [] cpos := by rfl) (hline : (apos.endLine == cpos.line) = true := by rfl) (hs : starEach [e] X.env = (false, eval e X.env) :: starEach [] X.env := by rfl) :
    E en X (.Call (.Attribute o "index" apos) [e] [] cpos) (lBM "tuple" tixT la l) := e_bm PySem.F.plainAttrs_tuple PySem.F.slot_tuple_index PySem.F.type_tuple_index m_tindex ho ha hbase hfew hline hs
theorem e_update (ho : E en X o la) (ha : Ea en X [e] l) (hbase : attributeBase o "update" X.env (eval o X.env) = eval o X.env := by rfl) (hfew : Few X e [] cpos := by rfl) (hline : (apos.endLine == cpos.line) = true := by rfl) (hs : starEach [e] X.env = (false, eval e X.env) :: starEach [] X.env := by rfl) :
    E en X (.Call (.Attribute o "update" apos) [e] [] cpos) (lBM "dict" updT la l) := e_bm PySem.F.plainAttrs_dict PySem.F.slot_dict_update PySem.F.type_dict_update m_update ho ha hbase hfew hline hs
end
theorem _root_.L2.Room.u1 {k : Nat} {A : Around} (r : Room k A) : A.units + 1 < cLine := by have := r.un; omega
theorem _root_.L2.Room.u64 {k : Nat} {A : Around} (r : Room k A) : A.units + 64 < cLine := by have := r.un; omega
theorem _root_.L2.Room.u65 {k : Nat} {A : Around} (r : Room k A) : A.units + 65 < cLine := by have := r.un; omega
end Dv
namespace Dv
open PySem PySem.Spec PyProof.Rows L2
/-! ### isinstance(x, (A, B)) -/
section
variable {X : Cx} {a b c e o e1 : Expr} {es ifs : List Expr} {la lb lv lx : LE} {l lk : LA} {pos p p2 p3 p4 apos cpos spos py : Pos} {k n : Nat} {x m y : Str} {sp : Sp2} {dts : List T}
def lIsi2 (n1 n2 : String) (la : LE) : LE := fun S G Φ => la S G fun t G1 => n1 ∈ tysS ∧ n2 ∈ tysS ∧ (match tyS t G1 with
    | some m => Φ (.bl (subS m n1 || subS m n2)) G1
    | none => False)
theorem kit_any2 {K : Fr0} {m n1 n2 : String} (hm : m ∈ "NoneType" :: tysS) (h1 : n1 ∈ tysS) (h2 : n2 ∈ tysS) : PySem.W.kitAny K (.type m) [.type n1, .type n2] = some (subS m n1 || subS m n2) := by
  refine kitAny_cons (kit_ty (kit_sub hm h1)) (fun e => ?_) (fun e => by rw [e]; rfl)
  rw [e, Bool.false_or]
  exact kitAny_cons (kit_ty (kit_sub hm h2)) (fun e => by rw [e]; rfl) (fun e => e)
theorem e_isi2 {n1 n2 : String} {x1 x2 : Str} {j : Nat} (hm : X.mg "isinstance" = none) (hm1 : X.mg x1 = none) (hm2 : X.mg x2 = none) (he : E en X e la) (hg : Gl X "isinstance" := by rfl) (hg1 : Gl X x1 := by rfl) (hg2 : Gl X x2 := by rfl)
    (hv1 : bootBuiltins x1 = some (.type n1) := by rfl) (hv2 : bootBuiltins x2 = some (.type n2) := by rfl) (hn1 : x1 ≠ "__name__" := by decide) (hd1 : (x1 == ("__debug__" : Str)) = false := by decide) (hn2 : x2 ≠ "__name__" := by decide) (hd2 : (x2 == ("__debug__" : Str)) = false := by decide)
    (hse : starEach [e, .Tuple [.Name x1 p1, .Name x2 p2] j p3] X.env = (false, eval e X.env) :: starEach [.Tuple [.Name x1 p1, .Name x2 p2] j p3] X.env := by rfl) (hpl : (backTo pos (starEach [.Tuple [.Name x1 p1, .Name x2 p2] j p3] X.env)).any (·.1) = false := by rfl) :
    E en X (.Call (.Name "isinstance" p) [e, .Tuple [.Name x1 p1, .Name x2 p2] j p3] [] pos) (lIsi2 n1 n2 la) := by
  refine PE.weak (pe_callB (r := rIsiT X.K) call_isiT hg hm rfl (pa_cons he (pa_cons (pe_tup (pa_cons (pe_bltn (v := .ty n1) hg1 hm1 hv1 rfl hn1 hd1) (pa_cons (pe_bltn (v := .ty n2) hg2 hm2 hv2 rfl hn2 hd2) pa_nil))) pa_nil) hse) (he := hse) (hpl := hpl)) ?_
  intro σ H Q ⟨S, G, Φ, s, g, q, kk⟩
  refine ⟨S, G, _, s, g, q, fun t G1 v H1 q1 r1 g1 s1 => ?_⟩
  refine ⟨Nat.le_trans (show 2 ≤ 1000 by decide) (by rw [sizeLine_eq]; decide), fun q hq => ?_⟩
  obtain ⟨h1, h2, q1⟩ := q1
  split at q1
  · rename_i m e1
    obtain ⟨g2, s2, st2⟩ := g1.laid (ho := .tup [.ty n1, .ty n2]) hq
    obtain ⟨y1, y2⟩ := tyS_ok g2 (r1.stay st2) e1
    exact ⟨v, q, [.ty n1, .ty n2], .type m, [.type n1, .type n2], _, rfl, upd_same, .cons (.ty n1) (.cons (.ty n2) .nil), y1, kit_any2 y2 h1 h2, kk _ _ _ _ q1 (.bl _) g2 (s1.trans s2)⟩
  · exact q1.elim
/-! tuples of the module -/
def GTup (K : Fr0) (mg : Str → Option Value) (x : Str) (t : T) : Prop := ∃ (u : Value) (v : V), mg x = some u ∧ RelV v u ∧ ∀ H, Rel K H v t
theorem e_gTup {t : T} (h : GTup X.K X.mg x t) (hg : Gl X x := by rfl) (hd : (x == ("__debug__" : Str)) = false := by decide) : E en X (.Name x pos) (lGlob t) := by
  obtain ⟨u, v, hm, r, h⟩ := h
  exact e_glob h hg hm r hd
end
/-! ### classes -/
section
variable {P : Program} {w : World} {K : Fr0} {mg : Str → Option Value} {base : Heap} {x qual m f0 : Str} {st : Stmt} {N ps : List Str} {k j : Nat} {sp : Sp2} {dts : List T} {C : Addr}
/-- a method as it stands in the text -/
structure DfM (K : Fr0) (C : Addr) (m qual : Str) (st : Stmt) (ps : List Str) : Prop where
  ex : ∃ (f : Addr) (fd : FuncData), Fun K m qual st f fd ∧ Meth K C m f ∧ Binds K fd ps []
structure KnM (P : Program) (w : World) (K : Fr0) (mg : Str → Option Value) (base : Heap) (k : Nat) (C : Addr) (m : Str) (sp : Sp2) (dts : List T) : Prop where
  ex : ∃ (f : Addr) (fd : FuncData) (ps : List Str) (dvs : List V) (ds : List Value), FnOk P w K mg base (L2.CX P w) k f fd ps (lowSp K sp) ∧ Cls K C ∧ Meth K C m f ∧ Binds K fd ps ds ∧ Vals dvs ds ∧ ∀ H, RelL K H dvs dts
theorem KnM.mono (F : KnM P w K mg base j C m sp dts) (h : j ≤ k) : KnM P w K mg base k C m sp dts := by
  obtain ⟨f, fd, ps, dvs, ds, a, r⟩ := F.ex
  exact ⟨f, fd, ps, dvs, ds, a.mono h, r⟩
theorem KnM.imp {sp' : Sp2} (F : KnM P w K mg base k C m sp dts) (h : ∀ ts G Φ ΦE, sp' ts G Φ ΦE → sp ts G Φ ΦE) : KnM P w K mg base k C m sp' dts := by
  obtain ⟨f, fd, ps, dvs, ds, a, r⟩ := F.ex
  exact ⟨f, fd, ps, dvs, ds, FnOk.impT a h, r⟩
theorem knM_of (c : Cls K C) (D : DfM K C m qual st ps) (S : FnScope N ps (defScope st)) (len : ∀ ts G Φ ΦE, sp ts G Φ ΦE → ts.length = ps.length) (hbody : ∀ f, BodyOk P w K mg base N qual (defScope st) f k (defBody st) sp) : KnM P w K mg base (k + 1) C m sp [] := by
  obtain ⟨f, fd, F, hm, hb⟩ := D.ex
  exact ⟨f, fd, ps, [], [], fn_T F S len (hbody f), c, hm, hb, .nil, fun H => .nil⟩
/-- __init__ -/
structure DfI (K : Fr0) (mg : Str → Option Value) (x : Str) (C : Addr) (qual : Str) (st : Stmt) (ps : List Str) : Prop where
  ex : ∃ (f : Addr) (fd : FuncData), Fun K "__init__" qual st f fd ∧ Mk K C f ∧ mg x = some (.ref C) ∧ Binds K fd ps []
structure KnI (P : Program) (w : World) (K : Fr0) (mg : Str → Option Value) (base : Heap) (k : Nat) (x : Str) (C : Addr) (sp : Sp2) (dts : List T) : Prop where
  ex : ∃ (f : Addr) (fd : FuncData) (ps : List Str) (dvs : List V) (ds : List Value), FnOk P w K mg base (L2.CX P w) k f fd ps (lowSp K sp) ∧ Mk K C f ∧ mg x = some (.ref C) ∧ Binds K fd ps ds ∧ Vals dvs ds ∧ ∀ H, RelL K H dvs dts
theorem KnI.imp {sp' : Sp2} (F : KnI P w K mg base k x C sp dts) (h : ∀ ts G Φ ΦE, sp' ts G Φ ΦE → sp ts G Φ ΦE) : KnI P w K mg base k x C sp' dts := by
  obtain ⟨f, fd, ps, dvs, ds, a, r⟩ := F.ex
  exact ⟨f, fd, ps, dvs, ds, FnOk.impT a h, r⟩
theorem knI_of (D : DfI K mg x C qual st ps) (S : FnScope N ps (defScope st)) (len : ∀ ts G Φ ΦE, sp ts G Φ ΦE → ts.length = ps.length) (hbody : ∀ f, BodyOk P w K mg base N qual (defScope st) f k (defBody st) sp) : KnI P w K mg base (k + 1) x C sp [] := by
  obtain ⟨f, fd, F, hm, hx, hb⟩ := D.ex
  exact ⟨f, fd, ps, [], [], fn_T F S len (hbody f), hm, hx, hb, .nil, fun H => .nil⟩
/-- a property -/
structure DfP (K : Fr0) (C : Addr) (m qual : Str) (st : Stmt) : Prop where
  ex : ∃ (p f : Addr) (fd : FuncData), Fun K m qual st f fd ∧ PropOf K C m p f ∧ Binds K fd ["self"] []
structure KnP (P : Program) (w : World) (K : Fr0) (mg : Str → Option Value) (base : Heap) (k : Nat) (C : Addr) (m : Str) (sp : Sp2) : Prop where
  ex : ∃ (p f : Addr) (fd : FuncData), FnOk P w K mg base (L2.CX P w) k f fd ["self"] (lowSp K sp) ∧ Cls K C ∧ PropOf K C m p f ∧ Binds K fd ["self"] []
theorem KnP.imp {sp' : Sp2} (F : KnP P w K mg base k C m sp) (h : ∀ ts G Φ ΦE, sp' ts G Φ ΦE → sp ts G Φ ΦE) : KnP P w K mg base k C m sp' := by
  obtain ⟨p, f, fd, a, r⟩ := F.ex
  exact ⟨p, f, fd, FnOk.impT a h, r⟩
theorem knP_of (c : Cls K C) (D : DfP K C m qual st) (S : FnScope N ["self"] (defScope st)) (len : ∀ ts G Φ ΦE, sp ts G Φ ΦE → ts.length = 1) (hbody : ∀ f, BodyOk P w K mg base N qual (defScope st) f k (defBody st) sp) : KnP P w K mg base (k + 1) C m sp := by
  obtain ⟨p, f, fd, F, hp, hb⟩ := D.ex
  exact ⟨p, f, fd, fn_T F S len (hbody f), c, hp, hb⟩
end
section
variable {X : Cx} {a b c e o e1 : Expr} {es ifs : List Expr} {la lb lv lx : LE} {l lk : LA} {pos p p2 apos cpos spos py : Pos} {k n : Nat} {x m y : Str} {sp : Sp2} {dts : List T} {C : Addr}
theorem e_km {pl : Sem Bool} (F : KnM X.prog X.w X.K X.mg X.base k C m sp dts) (hr : Room k X.A) (he : E en X o la) (ha : Ea en X (e :: es) l)
    (hst : starEach (e :: es) X.env = (false, eval e X.env) :: starEach es X.env := by rfl) (hpl : (backTo pos (starEach es X.env)).any (·.1) = false := by rfl)
    (ht : eval (.Call (.Attribute o m apos) (e :: es) [] pos) X.env = (do
      let ov ← eval o X.env
      standAt apos.atName
      let (f, first) ← holding [ov] (getMethod ov m pl)
      callWith pos f first (backTo pos (starEach (e :: es) X.env)) (backToKw pos (keywordEach [] X.env))) := by rfl) :
    E en X (.Call (.Attribute o m apos) (e :: es) [] pos) (lMeth C m sp dts noX la l) := by
  obtain ⟨f, fd, ps, dvs, ds, a, c, hm, hb, hd, hdt⟩ := F.ex
  exact e_meth he c hm a hr hb hd hdt passN ha hst hpl ht
theorem e_km0 {pl : Sem Bool} (F : KnM X.prog X.w X.K X.mg X.base k C m sp dts) (hr : Room k X.A) (he : E en X o la)
    (ht : eval (.Call (.Attribute o m apos) [] [] pos) X.env = (do
      let ov ← eval o X.env
      standAt apos.atName
      let (f, first) ← holding [ov] (getMethod ov m pl)
      callWith pos f first (backTo pos (starEach [] X.env)) (backToKw pos (keywordEach [] X.env))) := by rfl) :
    E en X (.Call (.Attribute o m apos) [] [] pos) (lMeth C m sp dts noX la lNil) := by
  obtain ⟨f, fd, ps, dvs, ds, a, c, hm, hb, hd, hdt⟩ := F.ex
  exact e_meth0 he c hm a hr hb hd hdt passN ht
theorem e_ki (F : KnI X.prog X.w X.K X.mg X.base k x C sp dts) (hr : Room (k + 1) X.A) (ha : Ea en X (e :: es) l) (hg : Gl X x := by rfl) (hdb : (x == ("__debug__" : Str)) = false := by decide)
    (he : starEach (e :: es) X.env = (false, eval e X.env) :: starEach es X.env := by rfl) (hpl : (backTo pos (starEach es X.env)).any (·.1) = false := by rfl) : E en X (.Call (.Name x p) (e :: es) [] pos) (lMake C sp dts noX l) := by
  obtain ⟨f, fd, ps, dvs, ds, a, M, hm, hb, hd, hdt⟩ := F.ex
  exact e_make M a hr hg hm hb hd hdt passN ha hdb he hpl
/-- o.f, a property -/
def lProp (C : Addr) (sp : Sp2) (la : LE) : LE := fun S G Φ => la S G fun t G1 => match t with
  | .ref a => (match G1 a with
    | some (.ins C' fs) => C' = C ∧ sp [.ref a] G1 Φ noX
    | _ => False)
  | _ => False
theorem e_kp (F : KnP X.prog X.w X.K X.mg X.base k C m sp) (hr : Room (k + 1) X.A) (he : E en X o la) (hab : attributeBase o m X.env (eval o X.env) = eval o X.env := by rfl) : E en X (.Attribute o m pos) (lProp C sp la) := by
  obtain ⟨p, f, fd, a, c, hp, hb⟩ := F.ex
  refine PE.weak (pe_prop (dvs := []) (E := lowX X.K en noX) he c hp a hr hb .nil (passN (X := X.nox)) hab) fun σ H Q ⟨S, G, Φ, s, g, q, kk⟩ => ?_
  refine ⟨S, G, _, s, g, q, fun t G1 v H1 q1 r1 g1 s1 => ?_⟩
  cases r1 with
  | ref a =>
    simp only at q1
    split at q1
    · rename_i C' fs e1
      obtain ⟨hC, q1⟩ := q1
      subst hC
      obtain ⟨dx, raw, h1, rf⟩ := g1.obj _ _ e1
      refine ⟨a, dx, raw, rfl, h1, ?_⟩
      exact ⟨[.ref a], G1, Φ, noX, .cons (.ref a) .nil, g1.nil, q1, fun t G' v H' a b c d => kk t G' v H' a b (g1.back c d) (s1.trans d), fun C fs G' H' cls d a b c d' => a.elim⟩
    · exact q1.elim
  | _ => exact q1.elim
end
end Dv
namespace Dv
open PySem PySem.Spec PyProof.Rows L2
def negT : R1T := fun t G Φ => match t with
  | .int i => Φ (.int (-i)) G
  | _ => False
theorem e_neg {X : Cx} {a : Expr} {la : LE} {pos : Pos} (ha : E en X a la) : E en X (.UnaryOp .USub a pos) (lUn negT la) := by
  refine PE.weak (pe_un un_neg ha) fun σ H Q ⟨S, G, Φ, s, g, q, k⟩ => ?_
  refine ⟨S, G, _, s, g, q, fun t G1 v H1 q1 r1 g1 s1 => ?_⟩
  cases r1 with
  | int i => exact ⟨i, rfl, k _ _ _ _ q1 (.int _) g1 s1⟩
  | _ => exact q1.elim
end Dv
namespace Dv
open PySem PySem.Spec PyProof.Rows L2
/-! ### values without addresses, as data -/
mutual
def pd : T → PyData
  | .non => .none
  | .bl b => .bool b
  | .int i => .int i
  | .str x => .str x
  | .tup ts => .tuple (pdL ts)
  | .ref _ => .none
  | .ty _ => .none
  | .ptup _ => .none
def pdL : List T → List PyData
  | [] => []
  | t :: ts => pd t :: pdL ts
end
mutual
def nr : T → Bool
  | .ref _ => false
  | .ptup _ => false
  | .ty _ => false
  | .tup ts => nrL ts
  | .str x => PyData.strOk x
  | .non => true
  | .bl _ => true
  | .int _ => true
def nrL : List T → Bool
  | [] => true
  | t :: ts => nr t && nrL ts
end
mutual
/-- no truth value meets a number -/
def cpt : T → T → Bool
  | .tup xs, u => cptT xs u
  | .bl _, .int _ => false
  | .int _, .bl _ => false
  | _, _ => true
def cptT : List T → T → Bool
  | [], _ => true
  | x :: xs, .tup (y :: ys) => cpt x y && cptT xs (.tup ys)
  | _, _ => true
end
mutual
/-- no truth value inside -/
def nb : T → Bool
  | .bl _ => false
  | .tup ts => nbL ts
  | _ => true
def nbL : List T → Bool
  | [] => true
  | t :: ts => nb t && nbL ts
end
mutual
def dpt : T → Nat
  | .tup ts => dptL ts + 1
  | _ => 0
def dptL : List T → Nat
  | [] => 0
  | t :: ts => max (dpt t) (dptL ts)
end
mutual
theorem nr_dat {G : Gp} : ∀ t : T, nr t = true → Dat G t (pd t) ∧ (pd t).canLay0 = true ∧ (pd t).depth = dpt t
  | .non, _ => ⟨.non, rfl, rfl⟩
  | .bl b, _ => ⟨.bl b, rfl, rfl⟩
  | .int i, _ => ⟨.int i, rfl, rfl⟩
  | .str x, h => ⟨.str x, by simpa [pd, PyData.canLay0, nr] using h, rfl⟩
  | .tup ts, h => by
    obtain ⟨h1, h2, h3⟩ := nrL_dat (G := G) ts (by simpa [nr] using h)
    refine ⟨.tup h1, by simpa [pd, PyData.canLay0] using h2, ?_⟩
    simp [pd, PyData.depth, dpt, h3]
  | .ref _, h => by simp [nr] at h
  | .ty _, h => by simp [nr] at h
  | .ptup _, h => by simp [nr] at h
theorem nrL_dat {G : Gp} : ∀ ts : List T, nrL ts = true → DatL G ts (pdL ts) ∧ PyData.canLayAll0 (pdL ts) = true ∧ PyData.depthAll (pdL ts) = dptL ts
  | [], _ => ⟨.nil, by simp [pdL, PyData.canLayAll0], by simp [pdL, PyData.depthAll, dptL]⟩
  | t :: ts, h => by
    have h' : nr t = true ∧ nrL ts = true := by simpa [nrL] using h
    obtain ⟨a1, a2, a3⟩ := nr_dat (G := G) t h'.1
    obtain ⟨b1, b2, b3⟩ := nrL_dat (G := G) ts h'.2
    exact ⟨.cons a1 b1, by simp [pdL, PyData.canLayAll0, a2, b2], by simp [pdL, PyData.depthAll, dptL, a3, b3]⟩
end
theorem beq_dec {α : Type} [BEq α] [LawfulBEq α] [DecidableEq α] (a b : α) : (a == b) = decide (a = b) := by
  by_cases h : a = b
  · subst h; simp
  · rw [beq_eq_false_iff_ne.mpr h, decide_eq_false h]
mutual
theorem eqv_pd : ∀ (t u : T), nr t = true → nr u = true → cpt t u = true → PyData.eqv (pd t) (pd u) = decide (t = u)
  | .non, u, _, h, _ => by cases u <;> simp_all [pd, PyData.eqv, nr]
  | .bl b, u, _, h, c => by cases u <;> simp_all [pd, PyData.eqv, nr, cpt]; exact beq_dec _ _
  | .int b, u, _, h, c => by cases u <;> simp_all [pd, PyData.eqv, nr, cpt]; exact beq_dec _ _
  | .str b, u, _, h, c => by cases u <;> simp_all [pd, PyData.eqv, nr, cpt]; exact beq_dec _ _
  | .ref _, u, h, _, _ => by simp [nr] at h
  | .ty _, u, h, _, _ => by simp [nr] at h
  | .ptup _, u, h, _, _ => by simp [nr] at h
  | .tup xs, u, h, h2, c => by
    cases u with
    | tup ys =>
      simp only [pd, PyData.eqv, T.tup.injEq]
      exact eqv_pdL xs ys (by simpa [nr] using h) (by simpa [nr] using h2) (by simpa [cpt] using c)
    | _ => simp_all [pd, PyData.eqv, nr]
theorem eqv_pdL : ∀ (xs ys : List T), nrL xs = true → nrL ys = true → cptT xs (.tup ys) = true → PyData.eqvAll (pdL xs) (pdL ys) = decide (xs = ys)
  | [], [], _, _, _ => by simp [pdL, PyData.eqvAll]
  | [], _ :: _, _, _, _ => by simp [pdL, PyData.eqvAll]
  | _ :: _, [], _, _, _ => by simp [pdL, PyData.eqvAll]
  | x :: xs, y :: ys, h, h2, c => by
    have h' : nr x = true ∧ nrL xs = true := by simpa [nrL] using h
    have h2' : nr y = true ∧ nrL ys = true := by simpa [nrL] using h2
    have c' : cpt x y = true ∧ cptT xs (.tup ys) = true := by simpa [cptT] using c
    simp only [pdL, PyData.eqvAll, eqv_pd x y h'.1 h2'.1 c'.1, eqv_pdL xs ys h'.2 h2'.2 c'.2, List.cons.injEq, Bool.decide_and]
end
mutual
theorem nb_cpt : ∀ t u : T, nb t = true → nb u = true → cpt t u = true
  | .tup xs, u, h, h2 => by simpa [cpt] using nb_cptT xs u (by simpa [nb] using h) h2
  | .bl _, u, h, _ => by simp [nb] at h
  | .int _, u, _, h2 => by cases u <;> simp_all [cpt, nb]
  | .non, u, _, _ => by simp [cpt]
  | .str _, u, _, _ => by simp [cpt]
  | .ref _, u, _, _ => by simp [cpt]
  | .ty _, u, _, _ => by simp [cpt]
  | .ptup _, u, _, _ => by simp [cpt]
theorem nb_cptT : ∀ (xs : List T) (u : T), nbL xs = true → nb u = true → cptT xs u = true
  | [], u, _, _ => by simp [cptT]
  | x :: xs, u, h, h2 => by
    have h' : nb x = true ∧ nbL xs = true := by simpa [nbL] using h
    cases u with
    | tup ys =>
      cases ys with
      | nil => simp [cptT]
      | cons y ys =>
        have h2' : nb y = true ∧ nbL ys = true := by simpa [nb, nbL] using h2
        simp [cptT, nb_cpt x y h'.1 h2'.1, nb_cptT xs (.tup ys) h'.2 (by simpa [nb] using h2'.2)]
    | _ => simp [cptT]
end
theorem nrL_iff : ∀ {ts : List T}, nrL ts = true ↔ ∀ t ∈ ts, nr t = true
  | [] => by simp [nrL]
  | t :: ts => by simp [nrL, nrL_iff (ts := ts)]
theorem nbL_iff : ∀ {ts : List T}, nbL ts = true ↔ ∀ t ∈ ts, nb t = true
  | [] => by simp [nbL]
  | t :: ts => by simp [nbL, nbL_iff (ts := ts)]
theorem dptL_le : ∀ {ts : List T} {n : Nat}, (∀ t ∈ ts, dpt t ≤ n) → dptL ts ≤ n
  | [], _, _ => by simp [dptL]
  | t :: ts, n, h => by
    have h1 := h t (by simp)
    have h2 := dptL_le (ts := ts) (n := n) fun u hu => h u (by simp [hu])
    simp [dptL]; omega
/-- plain data: no address, no truth value, not deep -/
def Pla (t : T) : Prop := nr t = true ∧ nb t = true ∧ dpt t ≤ 60
def PlaL (ts : List T) : Prop := ∀ t ∈ ts, Pla t
theorem PlaL.nil : PlaL [] := fun t h => by cases h
theorem PlaL.cons {t : T} {ts : List T} (h : Pla t) (r : PlaL ts) : PlaL (t :: ts) := fun u hu => by
  rcases List.mem_cons.mp hu with e | hu
  · rw [e]; exact h
  · exact r u hu
theorem PlaL.app {ts us : List T} (h : PlaL ts) (r : PlaL us) : PlaL (ts ++ us) := fun u hu => (List.mem_append.mp hu).elim (h u) (r u)
theorem pla_int {i : Int} : Pla (.int i) := ⟨by simp [nr], by simp [nb], by simp [dpt]⟩
theorem PlaL.ints (is : List Int) : PlaL (is.map T.int) := fun t h => by
  obtain ⟨i, _, rfl⟩ := List.mem_map.mp h
  exact pla_int
theorem shaped_of {d : PyData} (h : d.canLay0 = true) (h2 : d.depth ≤ 64) : SeqAt.shaped d = true := by
  unfold SeqAt.shaped
  rw [h]
  exact decide_eq_true h2
theorem PlaL.facts {ts : List T} (h : PlaL ts) : nrL ts = true ∧ nbL ts = true ∧ dptL ts ≤ 60 := ⟨nrL_iff.mpr fun t ht => (h t ht).1, nbL_iff.mpr fun t ht => (h t ht).2.1, dptL_le fun t ht => (h t ht).2.2⟩
/-- lists compared -/
theorem eqD_lst {neg : Bool} {G : Gp} {a b : Addr} {xs ys : List T} {Φ : QT} (ha : G a = some (.lst xs)) (hb : G b = some (.lst ys)) (px : PlaL xs) (py : PlaL ys) (h : Φ (.bl (if neg then !decide (xs = ys) else decide (xs = ys))) G) : eqD neg (.ref a) (.ref b) G Φ := by
  obtain ⟨x1, x2, x3⟩ := px.facts
  obtain ⟨y1, y2, y3⟩ := py.facts
  obtain ⟨dx, cx, ex⟩ := nrL_dat (G := G) xs x1
  obtain ⟨dy, cy, ey⟩ := nrL_dat (G := G) ys y1
  refine ⟨.list (pdL xs), .list (pdL ys), .lst ha dx, .lst hb dy, shaped_of (by simpa [PyData.canLay0] using cx) (by simp only [PyData.depth, ex]; omega), shaped_of (by simpa [PyData.canLay0] using cy) (by simp only [PyData.depth, ey]; omega), ?_⟩
  have e : PyData.eqv (.list (pdL xs)) (.list (pdL ys)) = decide (xs = ys) := by
    simp only [PyData.eqv]
    exact eqv_pdL xs ys x1 y1 (nb_cptT xs (.tup ys) x2 (by simpa [nb] using y2))
  rw [e]
  exact h
theorem eqT_lst {G : Gp} {a b : Addr} {xs ys : List T} {Φ : QT} (ha : G a = some (.lst xs)) (hb : G b = some (.lst ys)) (px : PlaL xs) (py : PlaL ys) (h : Φ (.bl (decide (xs = ys))) G) : eqT (.ref a) (.ref b) G Φ := by
  unfold eqT
  rw [if_neg (by simp [scalT])]
  exact eqD_lst ha hb px py h
theorem neT_lst {G : Gp} {a b : Addr} {xs ys : List T} {Φ : QT} (ha : G a = some (.lst xs)) (hb : G b = some (.lst ys)) (px : PlaL xs) (py : PlaL ys) (h : Φ (.bl (!decide (xs = ys))) G) : neT (.ref a) (.ref b) G Φ := by
  unfold neT
  rw [if_neg (by simp [scalT])]
  exact eqD_lst ha hb px py h
/-- tuples compared -/
theorem eqD_tup {neg : Bool} {G : Gp} {t u : T} {Φ : QT} (px : Pla t) (py : Pla u) (h : Φ (.bl (if neg then !decide (t = u) else decide (t = u))) G) : eqD neg t u G Φ := by
  obtain ⟨x1, x2, x3⟩ := px
  obtain ⟨y1, y2, y3⟩ := py
  obtain ⟨dx, cx, ex⟩ := nr_dat (G := G) t x1
  obtain ⟨dy, cy, ey⟩ := nr_dat (G := G) u y1
  refine ⟨_, _, dx, dy, shaped_of cx (by rw [ex]; omega), shaped_of cy (by rw [ey]; omega), ?_⟩
  rw [eqv_pd t u x1 y1 (nb_cpt t u x2 y2)]
  exact h
theorem eqT_tup {G : Gp} {t u : T} {Φ : QT} (px : Pla t) (py : Pla u) (h : Φ (.bl (decide (t = u))) G) : eqT t u G Φ := by
  unfold eqT
  split
  · exact h
  · exact eqD_tup px py h
theorem neT_tup {G : Gp} {t u : T} {Φ : QT} (px : Pla t) (py : Pla u) (h : Φ (.bl (!decide (t = u))) G) : neT t u G Φ := by
  unfold neT
  split
  · exact h
  · exact eqD_tup px py h
end Dv
namespace Dv
open PySem PySem.Spec PyProof.Rows L2
/-! ### the draws of a law: the dict of the draws and its two lists as one thing -/
def dkv (lg it : Addr) (l t : Int) : List (T × T) := [(.str "large", .ref lg), (.str "items", .ref it), (.str "left", .int l), (.str "turn", .int t)]
theorem look_large {lg it : Addr} {l t : Int} : dlook (dkv lg it l t) (.str "large") = some (.ref lg) := by
  unfold dkv dlook; rw [if_pos rfl]
theorem look_items {lg it : Addr} {l t : Int} : dlook (dkv lg it l t) (.str "items") = some (.ref it) := by
  simp [dkv, dlook, show ("large" : Str) ≠ "items" by decide]
theorem look_left {lg it : Addr} {l t : Int} : dlook (dkv lg it l t) (.str "left") = some (.int l) := by
  simp [dkv, dlook, show ("large" : Str) ≠ "left" by decide, show ("items" : Str) ≠ "left" by decide]
theorem look_turn {lg it : Addr} {l t : Int} : dlook (dkv lg it l t) (.str "turn") = some (.int t) := by
  simp [dkv, dlook, show ("large" : Str) ≠ "turn" by decide, show ("items" : Str) ≠ "turn" by decide, show ("left" : Str) ≠ "turn" by decide]
theorem put_left {lg it : Addr} {l t l' : Int} : dput (dkv lg it l t) (.str "left") (.int l') = dkv lg it l' t := by
  simp [dkv, dput, show ("large" : Str) ≠ "left" by decide, show ("items" : Str) ≠ "left" by decide, show ("turn" : Str) ≠ "left" by decide]
theorem put_turn {lg it : Addr} {l t t' : Int} : dput (dkv lg it l t) (.str "turn") (.int t') = dkv lg it l t' := by
  simp [dkv, dput, show ("large" : Str) ≠ "turn" by decide, show ("items" : Str) ≠ "turn" by decide, show ("left" : Str) ≠ "turn" by decide]
theorem dkv_len {lg it : Addr} {l t : Int} : (dkv lg it l t).length < sizeLine := by rw [sizeLine_eq]; show 4 < _; decide
def opn (G : Gp) (d lg it : Addr) (l t : Int) (ls is : List Int) : Gp := gup (gup (gup G d (.dic (dkv lg it l t))) lg (.lst (ls.map T.int))) it (.lst (is.map T.int))
/-- what holds of an open state -/
structure Opn (d lg it : Addr) (l t : Int) (ls is : List Int) (n : Nat) : Prop where
  n1 : d ≠ lg
  n2 : d ≠ it
  n3 : lg ≠ it
  lpos : ∀ x ∈ ls, 0 ≤ x
  ipos : ∀ x ∈ is, 0 ≤ x
  ilen : is.length ≤ 63
  llen : ls.length ≤ 63
  l0 : 0 ≤ l
  t0 : 0 ≤ t
  tn : t ≤ n
section
variable {K : Fr0} {en : En} {H : Hp} {G : Gp} {d lg it : Addr} {l t : Int} {ls is : List Int} {n : Nat}
theorem opn_d (o : Opn d lg it l t ls is n) : opn G d lg it l t ls is d = some (.dic (dkv lg it l t)) := by
  unfold opn; rw [gup_ne o.n2, gup_ne o.n1, gup_same]
theorem opn_lg (o : Opn d lg it l t ls is n) : opn G d lg it l t ls is lg = some (.lst (ls.map T.int)) := by
  unfold opn; rw [gup_ne o.n3, gup_same]
theorem opn_it : opn G d lg it l t ls is it = some (.lst (is.map T.int)) := by
  unfold opn; rw [gup_same]
theorem opn_set_d (o : Opn d lg it l t ls is n) {l' t' : Int} : gup (opn G d lg it l t ls is) d (.dic (dkv lg it l' t')) = opn G d lg it l' t' ls is := by
  unfold opn
  rw [gup_comm o.n2.symm, gup_comm o.n1.symm, gup_gup]
theorem opn_set_lg (o : Opn d lg it l t ls is n) {ls' : List Int} : gup (opn G d lg it l t ls is) lg (.lst (ls'.map T.int)) = opn G d lg it l t ls' is := by
  unfold opn
  rw [gup_comm o.n3.symm, gup_gup]
theorem opn_else {b : Addr} (h1 : b ≠ d) (h2 : b ≠ lg) (h3 : b ≠ it) : opn G d lg it l t ls is b = G b := by
  unfold opn; rw [gup_ne h3, gup_ne h2, gup_ne h1]
theorem opn_of (n1 : d ≠ lg) (n2 : d ≠ it) (n3 : lg ≠ it) : gup (gup (gup G it (.lst (is.map T.int))) lg (.lst (ls.map T.int))) d (.dic (dkv lg it l t)) = opn G d lg it l t ls is := by
  unfold opn
  rw [gup_comm n1.symm, gup_comm (a := it) (b := d) n2.symm, gup_comm n3.symm]
theorem ints_rel : ∀ xs : List Int, RelL K H (xs.map V.int) (xs.map T.int)
  | [] => .nil
  | x :: xs => .cons (.int x) (ints_rel xs)
theorem rel_ints : ∀ {xs : List Int} {vs : List V}, RelL K H vs (xs.map T.int) → vs = xs.map V.int
  | [], _, .nil => rfl
  | x :: xs, _, .cons h r => by cases h; rw [rel_ints r]; rfl
theorem dkv_rel : RelD K H (drawKvs lg it l t) (dkv lg it l t) :=
  .cons (k := .inr "large") (.ref lg) (.cons (k := .inr "items") (.ref it) (.cons (k := .inr "left") (.int l) (.cons (k := .inr "turn") (.int t) .nil)))
theorem rel_dkv {vs : List (Key × V)} (h : RelD K H vs (dkv lg it l t)) : vs = drawKvs lg it l t := by
  have key : ∀ {k : Key} {s : Str}, kT k = .str s → k = .inr s := by
    intro k s e
    cases k <;> simp [kT] at e
    rw [e]
  unfold dkv at h
  generalize e1 : T.str "large" = k1 at h
  generalize e2 : T.str "items" = k2 at h
  generalize e3 : T.str "left" = k3 at h
  generalize e4 : T.str "turn" = k4 at h
  cases h with
  | cons a h =>
    cases h with
    | cons b h =>
      cases h with
      | cons c h =>
        cases h with
        | cons f h =>
          cases h
          cases a; cases b; cases c; cases f
          rw [key e1.symm, key e2.symm, key e3.symm, key e4.symm]
          rfl
/-- opened: no state of draws is left, the same cells are owned -/
theorem drw_open (g : HRel K en H G) (e : G d = some (.drw n)) : ∃ lg it l t ls is, Opn d lg it l t ls is n ∧ G lg = none ∧ G it = none ∧ HRel K [] H (opn G d lg it l t ls is) ∧ (∀ b, Own H (opn G d lg it l t ls is) b ↔ Own H G b) := by
  obtain ⟨lg, it, l, t, ls, is, r⟩ := g.obj d _ e
  have n1 : d ≠ lg := fun z => by have h := r.hd; rw [z, r.hlg] at h; cases h
  have n2 : d ≠ it := fun z => by have h := r.hd; rw [z, r.hit] at h; cases h
  have o : Opn d lg it l t ls is n := ⟨n1, n2, r.ne, r.lpos, r.ipos, r.ilen, r.llen, r.l0, r.t0, r.tn⟩
  have hidl : Hid H d lg := ⟨lg, it, l, t, r.hd, .inl rfl⟩
  have hidi : Hid H d it := ⟨lg, it, l, t, r.hd, .inr rfl⟩
  have hid : ∀ b, Hid H d b → b = lg ∨ b = it := by
    rintro b ⟨lg', it', l', t', h, hb⟩
    rw [r.hd] at h
    obtain ⟨e1, e2, _, _⟩ := drawKvs_inj (HO.dK.inj (Option.some.inj h))
    subst e1 e2
    exact hb
  have nodrw : ∀ d' n', opn G d lg it l t ls is d' ≠ some (.drw n') := by
    intro d' n' z
    by_cases h1 : d' = d
    · subst h1; rw [opn_d o] at z; cases z
    by_cases h2 : d' = lg
    · subst h2; rw [opn_lg o] at z; cases z
    by_cases h3 : d' = it
    · subst h3; rw [opn_it] at z; cases z
    rw [opn_else h1 h2 h3] at z
    exact h1 (g.one _ _ _ _ z e)
  refine ⟨lg, it, l, t, ls, is, o, g.sep _ _ _ e hidl, g.sep _ _ _ e hidi, ⟨fun b u eb => ?_, fun d' n' b z => absurd z (nodrw _ _), fun d' _ n' _ z => absurd z (nodrw _ _), fun e he => by cases he⟩, fun b => ?_⟩
  · by_cases h1 : b = d
    · subst h1
      rw [opn_d o] at eb
      cases eb
      exact ⟨_, r.hd, dkv_rel⟩
    by_cases h2 : b = lg
    · subst h2
      rw [opn_lg o] at eb
      cases eb
      exact ⟨_, r.hlg, ints_rel _⟩
    by_cases h3 : b = it
    · subst h3
      rw [opn_it] at eb
      cases eb
      exact ⟨_, r.hit, ints_rel _⟩
    rw [opn_else h1 h2 h3] at eb
    exact g.obj b u eb
  · constructor
    · rintro (⟨u, z⟩ | ⟨d', n', z, _⟩)
      · by_cases h1 : b = d
        · subst h1; exact .inl ⟨_, e⟩
        by_cases h2 : b = lg
        · subst h2; exact .inr ⟨d, n, e, hidl⟩
        by_cases h3 : b = it
        · subst h3; exact .inr ⟨d, n, e, hidi⟩
        rw [opn_else h1 h2 h3] at z
        exact .inl ⟨u, z⟩
      · exact absurd z (nodrw _ _)
    · rintro (⟨u, z⟩ | ⟨d', n', z, h⟩)
      · by_cases h1 : b = d
        · subst h1; exact .inl ⟨_, opn_d o⟩
        by_cases h2 : b = lg
        · subst h2; exact .inl ⟨_, opn_lg o⟩
        by_cases h3 : b = it
        · subst h3; exact .inl ⟨_, opn_it⟩
        exact .inl ⟨u, by rw [opn_else h1 h2 h3]; exact z⟩
      · have e' := g.one _ _ _ _ z e
        subst e'
        rcases hid b h with rfl | rfl
        · exact .inl ⟨_, opn_lg o⟩
        · exact .inl ⟨_, opn_it⟩
/-- closed again -/
theorem drw_close (h1 : ∀ d' n', G d' = some (.drw n') → d' = d) (hl : G lg = none) (hi : G it = none) (o : Opn d lg it l t ls is n) (g : HRel K [] H (opn G d lg it l t ls is)) :
    HRel K [] H (gup G d (.drw n)) ∧ ∀ b, Own H (gup G d (.drw n)) b ↔ Own H (opn G d lg it l t ls is) b := by
  obtain ⟨vd, hd, rd⟩ := g.obj d _ (opn_d o)
  obtain ⟨vl, hlg, rl⟩ := g.obj lg _ (opn_lg o)
  obtain ⟨vi, hit, ri⟩ := g.obj it _ opn_it
  have e1 := rel_dkv rd
  have e2 := rel_ints rl
  have e3 := rel_ints ri
  subst e1 e2 e3
  have r : DrawR H d n lg it l t ls is := ⟨hd, hlg, hit, o.n3, o.lpos, o.ipos, o.ilen, o.llen, o.l0, o.t0, o.tn⟩
  have hid : ∀ b, Hid H d b → b = lg ∨ b = it := by
    rintro b ⟨lg', it', l', t', h, hb⟩
    rw [hd] at h
    obtain ⟨e1, e2, _, _⟩ := drawKvs_inj (HO.dK.inj (Option.some.inj h))
    subst e1 e2
    exact hb
  have isd : ∀ d' n', gup G d (.drw n) d' = some (.drw n') → d' = d := by
    intro d' n' z
    by_cases h : d' = d
    · exact h
    · rw [gup_ne h] at z
      exact h1 d' n' z
  have nod : ∀ d' n', opn G d lg it l t ls is d' ≠ some (.drw n') := by
    intro d' n' z
    by_cases h1' : d' = d
    · subst h1'; rw [opn_d o] at z; cases z
    by_cases h2 : d' = lg
    · subst h2; rw [opn_lg o] at z; cases z
    by_cases h3 : d' = it
    · subst h3; rw [opn_it] at z; cases z
    rw [opn_else h1' h2 h3] at z
    exact h1' (h1 _ _ z)
  refine ⟨⟨fun b u eb => ?_, fun d' n' b z hb => ?_, fun d' d2 n' n2 z z2 => (isd _ _ z).trans (isd _ _ z2).symm, fun e he => by cases he⟩, fun b => ?_⟩
  · by_cases hb : b = d
    · subst hb
      rw [gup_same] at eb
      cases eb
      exact ⟨lg, it, l, t, ls, is, r⟩
    · rw [gup_ne hb] at eb
      by_cases h2 : b = lg
      · subst h2; rw [hl] at eb; cases eb
      by_cases h3 : b = it
      · subst h3; rw [hi] at eb; cases eb
      exact g.obj b u (by rw [opn_else hb h2 h3]; exact eb)
  · have e' := isd _ _ z
    subst e'
    rcases hid b hb with rfl | rfl
    · rw [gup_ne o.n1.symm]; exact hl
    · rw [gup_ne o.n2.symm]; exact hi
  · constructor
    · rintro (⟨u, z⟩ | ⟨d', n', z, h⟩)
      · by_cases hb : b = d
        · subst hb; exact .inl ⟨_, opn_d o⟩
        · rw [gup_ne hb] at z
          by_cases h2 : b = lg
          · subst h2; rw [hl] at z; cases z
          by_cases h3 : b = it
          · subst h3; rw [hi] at z; cases z
          exact .inl ⟨u, by rw [opn_else hb h2 h3]; exact z⟩
      · have e' := isd _ _ z
        subst e'
        rcases hid b h with rfl | rfl
        · exact .inl ⟨_, opn_lg o⟩
        · exact .inl ⟨_, opn_it⟩
    · rintro (⟨u, z⟩ | ⟨d', n', z, _⟩)
      · by_cases hb : b = d
        · subst hb; exact .inl ⟨_, gup_same⟩
        by_cases h2 : b = lg
        · subst h2; exact .inr ⟨d, n, gup_same, ⟨b, it, l, t, hd, .inl rfl⟩⟩
        by_cases h3 : b = it
        · subst h3; exact .inr ⟨d, n, gup_same, ⟨lg, b, l, t, hd, .inr rfl⟩⟩
        rw [opn_else hb h2 h3] at z
        exact .inl ⟨u, by rw [gup_ne hb]; exact z⟩
      · exact absurd z (nod _ _)
end
/-- how many draws a law may make -/
def mostDraws : Nat := 10 ^ 9
def spTake : Sp2 := fun ts G Φ _ => ∃ d sz n, ts = [.ref d, .int sz] ∧ G d = some (.drw n) ∧ (0 < sz ∧ sz < 2 ^ 30) ∧ n < mostDraws ∧ ∀ r, 0 ≤ r → r < sz → Φ (.int r) (gup G d (.drw (n + 1)))
def spTake0 : Sp2 := fun ts G Φ _ => ∃ d sz n G0 lg it l t ls is, ts = [.ref d, .int sz] ∧ G = opn G0 d lg it l t ls is ∧ Opn d lg it l t ls is n ∧ (0 < sz ∧ sz < 2 ^ 30) ∧ n < mostDraws ∧
  ∀ r l' t' ls', 0 ≤ r → r < sz → Opn d lg it l' t' ls' is (n + 1) → Φ (.int r) (opn G0 d lg it l' t' ls' is)
theorem take_open {K : Fr0} : ∀ vs H Q E, lowSp K spTake vs H Q E → lowSp K spTake0 vs H Q E := by
  rintro vs H Q E ⟨ts, G, Φ, ΦE, r, g, ⟨d, sz, n, rfl, e, hsz, hn, q⟩, k1, k2⟩
  obtain ⟨lg, it, l, t, ls, is, o, hl, hi, g1, own⟩ := drw_open g e
  refine ⟨_, opn G d lg it l t ls is, fun u G' => ∃ r l' t' ls', u = .int r ∧ 0 ≤ r ∧ r < sz ∧ Opn d lg it l' t' ls' is (n + 1) ∧ G' = opn G d lg it l' t' ls' is, fun _ _ _ => False, r, g1,
    ⟨d, sz, n, G, lg, it, l, t, ls, is, rfl, rfl, o, hsz, hn, fun r l' t' ls' h1 h2 o' => ⟨r, l', t', ls', rfl, h1, h2, o', rfl⟩⟩, ?_, fun _ _ _ _ _ _ z => z.elim⟩
  rintro u G' v H' ⟨r, l', t', ls', rfl, h1, h2, o', rfl⟩ rv g' s'
  obtain ⟨g2, own2⟩ := drw_close (fun d' n' z => g.one _ _ _ _ z e) hl hi o' g'
  refine k1 _ _ v H' (q r h1 h2) rv g2 ⟨fun a u ea na => ?_, s'.al⟩
  obtain ⟨z1, z2⟩ := s'.fr a u ea (fun z => na ((own a).mp z))
  exact ⟨z1, fun z => z2 ((own2 a).mp z)⟩
theorem kn_take {P : Program} {w : World} {K : Fr0} {mg : Str → Option Value} {base : Heap} {k : Nat} {x : Str} (F : Kn P w K mg base k x spTake0 []) : Kn P w K mg base k x spTake [] := by
  obtain ⟨f, fd, ps, dvs, ds, a, r⟩ := F.ex
  exact ⟨f, fd, ps, dvs, ds, a.imp take_open, r⟩
end Dv
namespace Dv
open PySem PySem.Spec L2
/-! ### statements one by one -/
section
variable {a b : LS} {L : LEnds} {S : S2} {G : Gp}
/-- the first statement; behind it nothing is forgotten -/
theorem sq {M : S2 → Gp → Prop} (k : ∀ S' G', M S' G' → b L S' G') (h : ∀ R : S2 → Gp → Prop, (∀ S' G' G0, Sub G0 G' → M S' G0 → R S' G') → a ⟨R, L.rt, L.bk, L.ct⟩ S G) : lSeq a b L S G :=
  h _ fun S' G' G0 sb m => ⟨G0, sb, k S' G0 m⟩
/-- behind the statement: what stands here -/
theorem sq1 {S1 : S2} {G1 : Gp} (h : ∀ R : S2 → Gp → Prop, (∀ G', Sub G1 G' → R S1 G') → a ⟨R, L.rt, L.bk, L.ct⟩ S G) (k : b L S1 G1) : lSeq a b L S G :=
  sq (M := fun S' G' => S' = S1 ∧ G' = G1) (fun S' G' ⟨e1, e2⟩ => by rw [e1, e2]; exact k) fun R hR => h R fun G' sb => hR S1 G' G1 sb ⟨rfl, rfl⟩
theorem forW_ind {f : T → S2 → Option S2} {b : LS} {Keep : Gp → Prop} (I : List T → S2 → Gp → Prop) (h0 : ∀ S G, I [] S G → Keep G ∧ L.nx S G)
    (h1 : ∀ t r S G, I (t :: r) S G → Keep G ∧ ∃ S', f t S = some S' ∧ ∀ R : S2 → Gp → Prop, (∀ S1 G1 G0, Sub G0 G1 → I r S1 G0 → R S1 G1) → b ⟨R, L.rt, L.nx, R⟩ S' G) :
    ∀ items S G, I items S G → forW L f b Keep items S G
  | [], S, G, i => h0 S G i
  | t :: r, S, G, i => by
    obtain ⟨kp, S', e, h⟩ := h1 t r S G i
    refine ⟨kp, ?_⟩
    rw [e]
    exact h (fun S1 G1 => ∃ G0, Sub G0 G1 ∧ forW L f b Keep r S1 G0) fun S1 G1 G0 sb i' => ⟨G0, sb, forW_ind I h0 h1 r S1 G0 i'⟩
theorem lcW_ind {Keep : Gp → Prop} {f : T → S2 → Option S2} {vs : List Nat} {tt : LT} {te : LE} {Fin : List T → Gp → Prop} {S : S2} (I : List T → List T → Gp → Prop) (h0 : ∀ acc G, I [] acc G → Keep G ∧ Fin acc G)
    (h1 : ∀ t r acc G, I (t :: r) acc G → Keep G ∧ ∃ S2, f t (wipe2 S vs) = some S2 ∧ ∀ R : List T → Gp → Prop, (∀ acc G1 G0, Sub G0 G1 → I r acc G0 → R acc G1) →
      tt S2 G fun b G1 => if b = true then te S2 G1 fun y G2 => acc.length < sizeLine ∧ R (acc ++ [y]) G2 else R acc G1) : ∀ items acc G, I items acc G → lcW Keep f vs tt te Fin S items acc G
  | [], acc, G, i => h0 acc G i
  | t :: r, acc, G, i => by
    obtain ⟨kp, S2, e, h⟩ := h1 t r acc G i
    refine ⟨kp, ?_⟩
    rw [e]
    exact h (fun acc G1 => ∃ G0, Sub G0 G1 ∧ lcW Keep f vs tt te Fin S r acc G0) fun acc G1 G0 sb i' => ⟨G0, sb, lcW_ind I h0 h1 r acc G0 i'⟩
theorem dcW_ind {Keep : Gp → Prop} {f : T → S2 → Option S2} {vs : List Nat} {tt : LT} {tk tv : LE} {Fin : List (T × T) → Gp → Prop} {S : S2} (I : List T → List (T × T) → Gp → Prop) (h0 : ∀ acc G, I [] acc G → Keep G ∧ Fin acc G)
    (h1 : ∀ t r acc G, I (t :: r) acc G → Keep G ∧ ∃ S2, f t (wipe2 S vs) = some S2 ∧ ∀ R : List (T × T) → Gp → Prop, (∀ acc G1 G0, Sub G0 G1 → I r acc G0 → R acc G1) →
      tt S2 G fun b G1 => if b = true then tk S2 G1 fun y G2 => tv S2 G2 fun z G3 => acc.length < sizeLine ∧ (keyT y).isSome = true ∧ R (dput acc y z) G3 else R acc G1) : ∀ items acc G, I items acc G → dcW Keep f vs tt tk tv Fin S items acc G
  | [], acc, G, i => h0 acc G i
  | t :: r, acc, G, i => by
    obtain ⟨kp, S2, e, h⟩ := h1 t r acc G i
    refine ⟨kp, ?_⟩
    rw [e]
    exact h (fun acc G1 => ∃ G0, Sub G0 G1 ∧ dcW Keep f vs tt tk tv Fin S r acc G0) fun acc G1 G0 sb i' => ⟨G0, sb, dcW_ind I h0 h1 r acc G0 i'⟩
/-- a comprehension whose test and item are read off -/
theorem lc_pure {Keep : Gp → Prop} {f : T → S2 → Option S2} {vs : List Nat} {tt : LT} {te : LE} {Fin : List T → Gp → Prop} {S : S2} {G : Gp} (p : T → Bool) (g : T → T) {items : List T} (hK : Keep G) (hl : items.length ≤ sizeLine)
    (h : ∀ t ∈ items, ∃ S2, f t (wipe2 S vs) = some S2 ∧ (∀ Φ : Bool → Gp → Prop, (∀ G', Sub G G' → Φ (p t) G') → tt S2 G Φ) ∧ (p t = true → ∀ G', Sub G G' → ∀ Φ : QT, (∀ G'', Sub G' G'' → Φ (g t) G'') → te S2 G' Φ))
    (k : Fin ((items.filter p).map g) G) : lcW Keep f vs tt te Fin S items [] G := by
  refine lcW_ind (I := fun r acc G' => G' = G ∧ ∃ q, items = q ++ r ∧ acc = (q.filter p).map g) (fun acc G' ⟨e, q, h1, h2⟩ => ?_) (fun t r acc G' ⟨e, q, h1, h2⟩ => ?_) items [] G ⟨rfl, [], rfl, rfl⟩
  · subst e
    rw [List.append_nil] at h1
    subst h1 h2
    exact ⟨hK, k⟩
  · subst e
    obtain ⟨S2, e1, e2, e3⟩ := h t (by rw [h1]; simp)
    refine ⟨hK, S2, e1, fun R hR => e2 _ fun G1 sb => ?_⟩
    have hlen : acc.length < sizeLine := by
      rw [h2, List.length_map]
      have := List.length_filter_le p q
      rw [h1, List.length_append, List.length_cons] at hl
      omega
    cases hp : p t with
    | true =>
      simp only [if_true]
      refine e3 hp G1 sb _ fun G2 sb2 => ⟨hlen, hR _ _ G' (sb.trans sb2) ⟨rfl, q ++ [t], by rw [h1]; simp, by rw [h2]; simp [hp]⟩⟩
    | false =>
      simp only [Bool.false_eq_true, if_false]
      exact hR _ _ G' sb ⟨rfl, q ++ [t], by rw [h1]; simp, by rw [h2]; simp [hp]⟩
end
/-! ### slices -/
theorem cut_from {α : Type} (xs : List α) (k : Nat) : cut xs (some (k : Int)) none = xs.drop k := by
  unfold cut
  rw [HT.sIx_nat, HT.sIx_none]
  by_cases h : k ≤ xs.length
  · rw [Nat.min_eq_left h, List.take_of_length_le (by rw [List.length_drop]; omega)]
  · rw [Nat.min_eq_right (by omega), List.drop_of_length_le (Nat.le_refl _), List.drop_of_length_le (by omega)]
    simp
theorem cut_to {α : Type} (xs : List α) (k : Nat) : cut xs none (some (k : Int)) = xs.take k := by
  unfold cut
  rw [HT.sIx_nat, HT.sIx_none]
  simp only [List.drop_zero, Nat.sub_zero]
  by_cases h : k ≤ xs.length
  · rw [Nat.min_eq_left h]
  · rw [Nat.min_eq_right (by omega), List.take_of_length_le (Nat.le_refl _), List.take_of_length_le (by omega)]
theorem sIx_neg (n d k : Nat) (h : 0 < k) : HT.sIx n d (some (-(k : Int))) = n - k := by
  show (if (-(k : Int)) < 0 then (-(k : Int) + (n : Int)).toNat else min (-(k : Int)).toNat n) = n - k
  rw [if_pos (by omega)]
  omega
theorem cut_toNeg {α : Type} (xs : List α) (k : Nat) (h : 0 < k) : cut xs none (some (-(k : Int))) = xs.take (xs.length - k) := by
  unfold cut
  rw [sIx_neg _ _ _ h, HT.sIx_none]
  simp
theorem cut_fromNeg {α : Type} (xs : List α) (k : Nat) (h : 0 < k) : cut xs (some (-(k : Int))) none = xs.drop (xs.length - k) := by
  unfold cut
  rw [sIx_neg _ _ _ h, HT.sIx_none]
  rw [List.take_of_length_le (by rw [List.length_drop]; omega)]
theorem atI_neg {α : Type} {xs : List α} {k : Nat} (h0 : 0 < k) (h : k ≤ xs.length) : atI xs (-(k : Int)) = xs[xs.length - k]? := by
  unfold atI ixN
  rw [if_neg (by omega), if_pos (by omega)]
  show xs[(-(k : Int) + (xs.length : Int)).toNat]? = _
  rw [show (-(k : Int) + (xs.length : Int)).toNat = xs.length - k by omega]
/-! ### operations read off -/
section
variable {G : Gp} {a b p : Addr} {t u v : T} {xs ys : List T} {kvs : List (T × T)} {i j : Int} {s : Str} {Φ : QT}
theorem ixT_dic (h : G a = some (.dic kvs)) (hk : (keyT u).isSome = true) (hl : dlook kvs u = some t) : ixT (.ref a) u G Φ = Φ t G := by
  obtain ⟨k, e⟩ := Option.isSome_iff_exists.mp hk
  simp [ixT, h, e, hl]
theorem ixT_lst (h : G a = some (.lst xs)) (hl : atI xs i = some t) : ixT (.ref a) (.int i) G Φ = Φ t G := by
  simp [ixT, h, hl]
theorem ixT_tup (hl : atI xs i = some t) : ixT (.tup xs) (.int i) G Φ = Φ t G := by
  simp [ixT, hl]
theorem atT_nat {α : Type} {xs : List α} {n : Nat} (h : n < xs.length) : atI xs (n : Int) = xs[n]? := by
  unfold atI ixN
  simp [show (n : Int) < (xs.length : Int) by omega, show ¬ ((n : Int) < 0) by omega]
theorem lenT_lst (h : G a = some (.lst xs)) : lenT [.ref a] G Φ = Φ (.int (xs.length : Int)) G := by simp [lenT, h]
theorem lenT_dic (h : G a = some (.dic kvs)) : lenT [.ref a] G Φ = Φ (.int (kvs.length : Int)) G := by simp [lenT, h]
theorem lenT_tup : lenT [.tup xs] G Φ = Φ (.int (xs.length : Int)) G := by simp [lenT]
theorem setT_dic {Ψ : Gp → Prop} (h : G a = some (.dic kvs)) (hk : (keyT u).isSome = true) : setT (.ref a) u v G Ψ = (kvs.length < sizeLine ∧ Ψ (gup G a (.dic (dput kvs u v)))) := by
  obtain ⟨k, e⟩ := Option.isSome_iff_exists.mp hk
  simp [setT, h, e]
theorem itT_lst {Ψ : List T → (Gp → Prop) → Gp → Prop} (h : G a = some (.lst xs)) (q : Ψ xs (fun G' => G' a = some (.lst xs)) G) : itT (.ref a) G Ψ := by simp only [itT, h]; exact q
theorem itT_dic {Ψ : List T → (Gp → Prop) → Gp → Prop} {ob : Obj} {raw : List (Key × V)} (h : G a = some (.fdic ob raw kvs)) (q : Ψ (kvs.map (·.1)) (fun G' => G' a = some (.fdic ob raw kvs)) G) : itT (.ref a) G Ψ := by simp only [itT, h]; exact q
theorem fresh_ne {o : O} {p : Addr} (h : G a = some o) (hp : G p = none) : p ≠ a := fun z => by rw [z, h] at hp; cases hp
theorem setT_dicI {Ψ : Gp → Prop} (h : G a = some (.dic kvs)) (hl : kvs.length < sizeLine) (q : Ψ (gup G a (.dic (dput kvs u v)))) (hk : (keyT u).isSome = true := by rfl) : setT (.ref a) u v G Ψ := by
  rw [setT_dic h hk]; exact ⟨hl, q⟩
theorem ixT_dicI (h : G a = some (.dic kvs)) (hl : dlook kvs u = some t) (q : Φ t G) (hk : (keyT u).isSome = true := by rfl) : ixT (.ref a) u G Φ := by rw [ixT_dic h hk hl]; exact q
theorem ixT_lstI (h : G a = some (.lst xs)) (hl : atI xs i = some t) (q : Φ t G) : ixT (.ref a) (.int i) G Φ := by rw [ixT_lst h hl]; exact q
theorem ixT_tupI (hl : atI xs i = some t) (q : Φ t G) : ixT (.tup xs) (.int i) G Φ := by rw [ixT_tup hl]; exact q
theorem lenT_lstI (h : G a = some (.lst xs)) (q : Φ (.int (xs.length : Int)) G) : lenT [.ref a] G Φ := by rw [lenT_lst h]; exact q
theorem lenT_dicI (h : G a = some (.dic kvs)) (q : Φ (.int (kvs.length : Int)) G) : lenT [.ref a] G Φ := by rw [lenT_dic h]; exact q
theorem atI_0 {α : Type} {x : α} {r : List α} : atI (x :: r) 0 = some x := by
  unfold atI ixN
  rw [if_pos (Int.le_refl 0), if_pos (by simp only [List.length_cons]; omega)]
  rfl
theorem atI_1 {α : Type} {x y : α} {r : List α} : atI (x :: y :: r) 1 = some y := by
  unfold atI ixN
  rw [if_pos (by decide), if_pos (by simp only [List.length_cons]; omega)]
  rfl
theorem atI_2 {α : Type} {x y z : α} {r : List α} : atI (x :: y :: z :: r) 2 = some z := by
  unfold atI ixN
  rw [if_pos (by decide), if_pos (by simp only [List.length_cons]; omega)]
  rfl
theorem ixT0 {x : T} {r : List T} (q : Φ x G) : ixT (.tup (x :: r)) (.int 0) G Φ := ixT_tupI atI_0 q
theorem ixT1 {x y : T} {r : List T} (q : Φ y G) : ixT (.tup (x :: y :: r)) (.int 1) G Φ := ixT_tupI atI_1 q
theorem ixT2 {x y z : T} {r : List T} (q : Φ z G) : ixT (.tup (x :: y :: z :: r)) (.int 2) G Φ := ixT_tupI atI_2 q
theorem gup_self {o : O} (h : G a = some o) : gup G a o = G := by
  funext b
  by_cases e : b = a
  · subst e; rw [gup_same, h]
  · rw [gup_ne e]
theorem lock_back {o x y : O} (hd : G a = some o) (hp : p ≠ a) : gup (gup (gup G a x) p y) a o = gup G p y := by
  rw [gup_comm hp, gup_gup, gup_self hd]
theorem isi_dic (h : G a = some (.dic kvs)) (q : Φ (.bl true) G) : isiT [.ref a, .ty "dict"] G Φ := by
  refine ⟨by decide, ?_⟩
  simp only [tyS, h]
  exact q
theorem lenT_tupI (q : Φ (.int (xs.length : Int)) G) : lenT [.tup xs] G Φ := q
theorem appT_lst (h : G a = some (.lst xs)) : appT (.ref a) [u] G Φ = (xs.length < sizeLine ∧ Φ .non (gup G a (.lst (xs ++ [u])))) := by simp [appT, h]
theorem popT_at {n : Nat} (h : G a = some (.lst xs)) (hi : i = n) (hn : n < 2 ^ 63) (hx : xs[n]? = some u) : popT (.ref a) [.int i] G Φ = Φ u (gup G a (.lst (xs.eraseIdx n))) := by
  subst hi
  simp [popT, h, hx]
  intro _; omega
theorem appT_lstI (h : G a = some (.lst xs)) (hl : xs.length < sizeLine) (q : Φ .non (gup G a (.lst (xs ++ [u])))) : appT (.ref a) [u] G Φ := by rw [appT_lst h]; exact ⟨hl, q⟩
theorem popT_atI {n : Nat} (h : G a = some (.lst xs)) (hi : i = n) (hn : n < 2 ^ 63) (hx : xs[n]? = some u) (q : Φ u (gup G a (.lst (xs.eraseIdx n)))) : popT (.ref a) [.int i] G Φ := by rw [popT_at h hi hn hx]; exact q
theorem tyT_lst (h : G a = some (.lst xs)) : tyT "list" (.ref a) G := by simp [tyT, h]
theorem tyT_dic (h : G a = some (.dic kvs)) : tyT "dict" (.ref a) G := by simp [tyT, h]
theorem neT_scal {t u : T} (h : scalT t u = true) (q : Φ (.bl (!decide (t = u))) G) : neT t u G Φ := by unfold neT; rw [if_pos h]; exact q
theorem eqT_scal {t u : T} (h : scalT t u = true) (q : Φ (.bl (decide (t = u))) G) : eqT t u G Φ := by unfold eqT; rw [if_pos h]; exact q
theorem addT_int (q : Φ (.int (i + j)) G) : addT (.int i) (.int j) G Φ := q
theorem addT_lst (ha : G a = some (.lst xs)) (hb : G b = some (.lst ys)) (hl : xs.length + ys.length ≤ sizeLine) (q : ∀ p, G p = none → Φ (.ref p) (gup G p (.lst (xs ++ ys)))) : addT (.ref a) (.ref b) G Φ := by
  simp only [addT, ha, hb]
  exact ⟨by rw [List.length_append]; exact hl, q⟩
theorem mulT_int (hc : -(2 ^ 64) < i ∧ i < 2 ^ 64) (q : Φ (.int (i * j)) G) : mulT (.int i) (.int j) G Φ := ⟨.inl hc, q⟩
end
end Dv
namespace Dv
open PySem PySem.Spec PyProof.Rows L2
/-! ### the script: a list that stands still, and is not told of -/
def SqG (K : Fr0) (H : Hp) (G : Gp) (a : Addr) (ns : List Int) : Prop := (∃ o, H a = some (.frz o (.lst (ns.map V.int))) ∧ ¬ Own H G a) ∨
    ∃ (o : Obj) (its : Array Value) (n : Nat), K.lookup a = some o ∧ o.cls = .type "list" ∧ o.dict = none ∧ o.data = .seq its n ∧ its.size ≤ sizeLine ∧ Vals (ns.map V.int) its.toList
theorem SqG.sq {K : Fr0} {H : Hp} {G : Gp} {a : Addr} {ns : List Int} (h : SqG K H G a ns) : SqL K H a (ns.map V.int) := h.elim (fun ⟨o, e, _⟩ => .inl (.inr ⟨o, e⟩)) fun h => .inr h
theorem SqG.of {K : Fr0} {H : Hp} {a : Addr} {ns : List Int} (hO : Only H) (h : SqL K H a (ns.map V.int)) : SqG K H (fun _ => none) a ns := by
  rcases h with (h | ⟨o, h⟩) | h
  · rcases hO a with z | ⟨o, xs, z⟩
    · rw [z] at h; cases h
    · rw [z] at h; cases h
  · exact .inl ⟨o, h, fun z => z.elim (fun ⟨o, e⟩ => by cases e) fun ⟨d, n, e, _⟩ => by cases e⟩
  · exact .inr h
theorem SqG.step {K : Fr0} {H H' : Hp} {G G' : Gp} {a : Addr} {ns : List Int} (h : SqG K H G a ns) (s : Step H G H' G') : SqG K H' G' a ns := h.elim (fun ⟨o, e, no⟩ => .inl ⟨o, s.fr a _ e no⟩) .inr
section
variable {X : Cx} {tg e : Expr} {la : LE}
theorem ok_scr {K : Fr0} {en : En} {a : Addr} {ns : List Int} (hS : ∀ H G, HRel K en H G → SqL K H a (ns.map V.int)) : ItOk K en (Itl K a) (ns.map T.int) (fun _ => True) (fun _ => True) where
  stab := fun _ _ _ h => h
  go := fun i H G g _ _ hi => by
    have hi' : i < ns.length := by simpa using hi
    exact ⟨_, .int ns[i], hS H G g, by simp [hi']⟩
  stop := fun i H G g _ _ hi => ⟨_, hS H G g, by simpa using hi⟩
  yld := fun i H G x H' g _ _ y hi => by
    obtain ⟨e, y⟩ := y
    subst e
    have hi' : i < ns.length := by simpa using hi
    have e := y _ (hS _ G g)
    rw [List.getElem?_map, List.getElem?_eq_getElem hi'] at e
    cases e
    exact ⟨.int ns[i], by simp [hi'], .int _, g, Step.refl _ _⟩
theorem i_scr {a : Addr} {ns : List Int} (hS : ∀ H G, HRel X.K en H G → SqL X.K H a (ns.map V.int)) (h : E en X e la) : Ei en X tg e (fun S G Ψ => la S G fun t G1 => t = .ref a ∧ Ψ (ns.map T.int) (fun _ => True) G1) := by
  refine PI.weak (pi_list h) fun σ H R ⟨S, G, Ψ, s, g, q, k⟩ => ?_
  refine ⟨S, G, _, s, g, q, fun t G1 v H1 q1 r1 g1 s1 => ?_⟩
  obtain ⟨e, q1⟩ := q1
  subst e
  cases r1
  exact ⟨a, rfl, ⟨_, hS H1 G1 g1⟩, k _ _ _ _ _ _ q1 g1 s1 (ok_scr hS) True.intro⟩
end
/-! ### _law_begin -/
def spBegin : Sp2 := fun ts G Φ _ => ∃ a, ts = [.ref a] ∧ (∀ d n, G d ≠ some (.drw n)) ∧ ∀ d, G d = none → Φ (.ref d) (gup G d (.drw 0))
def spBegin0 : Sp2 := fun ts G Φ _ => ∃ a, ts = [.ref a] ∧ ∀ d lg it ls is, G d = none → G lg = none → G it = none → Opn d lg it 0 0 ls is 0 → Φ (.ref d) (opn G d lg it 0 0 ls is)
def spPick : Sp2 := fun ts G Φ _ => ∃ d a n xs, ts = [.ref d, .ref a] ∧ G d = some (.drw n) ∧ G a = some (.lst xs) ∧ 0 < xs.length ∧ xs.length < 2 ^ 30 ∧ n < mostDraws ∧ ∀ x ∈ xs, Φ x (gup G d (.drw (n + 1)))
/-- over a script of at most 63 numbers -/
def lowScr (K : Fr0) (sp : Sp2) : Sp := fun vs H Q E => ∃ a ns G Φ ΦE, vs = [.ref a] ∧ SqG K H G a ns ∧ ns.length ≤ 63 ∧ HRel K [] H G ∧ sp [.ref a] G Φ ΦE ∧ (∀ t G' v H', Φ t G' → Rel K H' v t → HRel K [] H' G' → Step H G H' G' → Q v H') ∧ OutX K H G ΦE E
theorem begin_open {K : Fr0} : ∀ vs H Q E, lowScr K spBegin vs H Q E → lowScr K spBegin0 vs H Q E := by
  rintro vs H Q E ⟨a, ns, G, Φ, ΦE, e, hS, hn, g, ⟨a', e', hd, q⟩, k1, k2⟩
  refine ⟨a, ns, G, fun u G' => ∃ d lg it ls is, u = .ref d ∧ G d = none ∧ G lg = none ∧ G it = none ∧ Opn d lg it 0 0 ls is 0 ∧ G' = opn G d lg it 0 0 ls is, fun _ _ _ => False, e, hS, hn, g,
    ⟨a, rfl, fun d lg it ls is h1 h2 h3 o => ⟨d, lg, it, ls, is, rfl, h1, h2, h3, o, rfl⟩⟩, ?_, fun _ _ _ _ _ _ z => z.elim⟩
  rintro u G' v H' ⟨d, lg, it, ls, is, rfl, h1, h2, h3, o, rfl⟩ rv g' s'
  obtain ⟨g2, own2⟩ := drw_close (d := d) (lg := lg) (it := it) (G := G) (fun d' n' z => absurd z (hd d' n')) h2 h3 o g'
  refine k1 _ _ v H' (q d h1) rv g2 ⟨fun a u ea na => ?_, s'.al⟩
  obtain ⟨z1, z2⟩ := s'.fr a u ea na
  exact ⟨z1, fun z => z2 ((own2 a).mp z)⟩
section
variable {P : Program} {w : World} {K : Fr0} {mg : Str → Option Value} {base : Heap} {x : Str} {k : Nat}
structure KnB (P : Program) (w : World) (K : Fr0) (mg : Str → Option Value) (base : Heap) (k : Nat) (x : Str) (sp : Sp2) : Prop where
  ex : ∃ (f : Addr) (fd : FuncData) (ps : List Str), FnOk P w K mg base (L2.CX P w) k f fd ps (lowScr K sp) ∧ mg x = some (.ref f) ∧ PySem.W.keepIn K (.ref f) = true ∧ Binds K fd ps []
theorem knB_begin (F : KnB P w K mg base k x spBegin0) : KnB P w K mg base k x spBegin := by
  obtain ⟨f, fd, ps, a, r⟩ := F.ex
  exact ⟨f, fd, ps, a.imp begin_open, r⟩
/-- a def over the script: its body -/
abbrev BodyB (P : Program) (w : World) (K : Fr0) (mg : Str → Option Value) (base : Heap) (N : List Str) (x : Str) (st : Stmt) (f : Addr) (k : Nat) (sp : Sp2) : Prop :=
  ∀ (cdv : Value) (A : Around) (outer : List PySem.Env) (s : Shared) (H : Hp) (E : XK) (G : Gp) (Φ : QT) (ΦE : XK2) (a : Addr) (ns : List Int), Room k (A.deeper (envOfC x (defScope st) s.heap.objs.size f cdv)) → OutX K H G ΦE E →
      ns.length ≤ 63 → (∀ H' G', HRel K [(H, G)] H' G' → SqG K H' G' a ns) → sp [.ref a] G Φ ΦE → ∃ l, Ess [(H, G)] (bx P w K mg base N x (defScope st) f cdv A outer s H E) (defBody st) l ∧ l (bodyL Φ) (slots0 N [.ref a]) G
theorem fnB_of {st : Stmt} {N ps : List Str} {sp : Sp2} {f : Addr} {fd : FuncData} (F : Fun K x x st f fd) (S : FnScope N ps (defScope st)) (len : ps.length = 1) (hbody : BodyB P w K mg base N x st f k sp) : FnOk P w K mg base (L2.CX P w) (k + 1) f fd ps (lowScr K sp) := by
  refine F.okX S (fun vs H Q E ⟨a, ns, G, Φ, ΦE, e, _⟩ => by rw [e, len]; rfl) (fun cdv A outer s H vs Q E hr h => ?_)
  obtain ⟨a, ns, G, Φ, ΦE, rfl, hS, hn, g, q, k1, k2⟩ := h
  obtain ⟨l, b, q2⟩ := hbody cdv A outer s H E G Φ ΦE a ns hr k2 hn (fun H' G' g' => hS.step (g'.hist _ (List.mem_singleton.mpr rfl))) q
  exact ⟨_, b, slots0 N _, G, bodyL Φ, srel_start (.cons (.ref a) .nil), g.enter, q2, ends_body k1⟩
theorem knB_of {st : Stmt} {N ps : List Str} {sp : Sp2} (D : Df K mg x st ps) (S : FnScope N ps (defScope st)) (len : ps.length = 1) (hbody : ∀ f, BodyB P w K mg base N x st f k sp) : KnB P w K mg base (k + 1) x sp := by
  obtain ⟨f, fd, F, hm, hb⟩ := D.ex
  exact ⟨f, fd, ps, fnB_of F S len (hbody f), hm, F.kp, hb⟩
end
section
variable {X : Cx} {e : Expr} {la : LE} {pos p : Pos} {k : Nat} {x : Str} {sp : Sp2}
/-- the call of such a def with the script -/
theorem e_knB {a : Addr} {ns : List Int} (F : KnB X.prog X.w X.K X.mg X.base k x sp) (hn : ns.length ≤ 63) (hS : ∀ H G, HRel X.K en H G → SqG X.K H G a ns) (hr : Room k X.A) (ha : E en X e la) (hg : Gl X x := by rfl) (hdb : (x == ("__debug__" : Str)) = false := by decide)
    (he : starEach [e] X.env = (false, eval e X.env) :: starEach [] X.env := by rfl) : E en X (.Call (.Name x p) [e] [] pos) (fun S G Φ => la S G fun t G1 => t = .ref a ∧ sp [.ref a] G1 Φ noX) := by
  obtain ⟨f, fd, ps, F, hm, hk, hb⟩ := F.ex
  refine PE.weak (pe_call (E := lowX X.K en noX) F hr hg hm hk hb .nil passN (pa_cons ha pa_nil he) hdb he) fun σ H Q ⟨S, G, Φ, s, g, q, kk⟩ => ?_
  refine ⟨S, G, _, s, g, q, fun t G1 v H1 q1 r1 g1 s1 => ?_⟩
  obtain ⟨e1, q1⟩ := q1
  subst e1
  cases r1
  exact ⟨a, ns, G1, Φ, noX, rfl, hS H1 G1 g1, hn, g1.nil, q1, fun t G' v H' a b c d => kk t G' v H' a b (g1.back c d) (s1.trans d), fun C fs G' H' cls d a b c d' => a.elim⟩
end
end Dv
namespace Dv
open PySem PySem.Spec PyProof.Rows L2
/-! ### tuples whose object is known to have no dict (t.index(x)) -/
section
variable {X : Cx} {a b e o : Expr} {es : List Expr} {la lb : LE} {l : LA} {pos apos cpos : Pos}
def tupObj (us : List Value) : Obj := { cls := .type "tuple", data := .seq us.toArray }
theorem frz_new {P : Program} {w : World} {H : Hp} {h : Heap} {p : Addr} {xs : List V} {us : List Value} (hz : xs.length ≤ sizeLine) (r : Vals xs us) (e : h.get? p = some (tupObj us)) : ObjOk P w H h p (.frz (tupObj us) (.tup xs)) :=
  ⟨e, hz, us, r, ⟨_, e, rfl, _, rfl⟩⟩
def tPTup (t : TA) : TE := fun σ H Q => t σ H fun xs H1 => xs.length ≤ sizeLine ∧ ∀ p ob, H1 p = none → ob.dict = none → Q (.ref p) (L2.upd H1 p (.frz ob (.tup xs)))
theorem pe_ptup {t : TA} {x1} (h : PA X es t) : PE X (.Tuple es x1 pos) (tPTup t) := by
  refine ⟨fun pins s σ H Q I hq => ?_⟩
  refine wpAny_Tuple_spliced (thn (h.run pos pins s σ H _ I hq) fun us s1 ⟨xs, H1, I1, r, z, q⟩ => ⟨by rw [← r.length]; exact z, ?_⟩)
  have hf : H1 s1.heap.objs.size = none := I1.hok.fresh (Nat.le_refl _)
  exact ⟨.ref s1.heap.objs.size, L2.upd H1 s1.heap.objs.size (.frz (tupObj us) (.tup xs)), I1.laid (t' := s1.toks) (fun b u e => Heap.get?_push_of_some _ e) (Nat.le_refl _) (frz_new z r (Heap.get?_push_size _ rfl)), rfl, q _ _ hf rfl⟩
theorem ptup_laid {K : Fr0} {H : Hp} {G : Gp} {p : Addr} {ob : Obj} {vs : List V} {ts : List T} (g : HRel K en H G) (hp : H p = none) (hd : ob.dict = none) (r : RelL K H vs ts) :
    Rel K (L2.upd H p (.frz ob (.tup vs))) (.ref p) (.ptup ts) ∧ HRel K en (L2.upd H p (.frz ob (.tup vs))) G ∧ Step H G (L2.upd H p (.frz ob (.tup vs))) G := by
  obtain ⟨g1, s1, st⟩ := g.laid (ho := .frz ob (.tup vs)) hp
  exact ⟨.ptup upd_same hd (r.stay st), g1, s1⟩
def lPTup (l : LA) : LE := fun S G Φ => l S G fun ts G1 => ts.length ≤ sizeLine ∧ Φ (.ptup ts) G1
theorem e_ptup {k : Nat} (h : Ea en X es l) : E en X (.Tuple es k pos) (lPTup l) := by
  refine PE.weak (pe_ptup h) fun σ H Q ⟨S, G, Φ, s, g, q, k⟩ => ?_
  refine ⟨S, G, _, s, g, q, fun ts G1 vs H1 q1 r1 g1 s1 => ⟨by rw [r1.length]; exact q1.1, fun p ob hp hd => ?_⟩⟩
  obtain ⟨r2, g2, s2⟩ := ptup_laid g1 hp hd r1
  exact k _ _ _ _ q1.2 r2 g2 (s1.trans s2)
/-- read as any tuple -/
def unP : T → T
  | .ptup ts => .tup ts
  | t => t
theorem Rel.unP {K : Fr0} {H : Hp} {v : V} {t : T} (h : Rel K H v t) : Rel K H v (unP t) := by
  cases h with
  | ptup h d r => exact .tup (.inl (.inr ⟨_, h⟩)) r
  | non => exact .non
  | bl b => exact .bl b
  | int i => exact .int i
  | str x => exact .str x
  | ty n => exact .ty n
  | ref a => exact .ref a
  | tup h r => exact .tup h r
def lUnP (la : LE) : LE := fun S G Φ => la S G fun t G1 => Φ (unP t) G1
theorem e_unP (h : E en X e la) : E en X e (lUnP la) := PE.weak h fun σ H Q ⟨S, G, Φ, s, g, q, k⟩ => ⟨S, G, _, s, g, q, fun t G1 v H1 q1 r1 g1 s1 => k _ G1 v H1 q1 r1.unP g1 s1⟩
/-- p + t -/
def addP : R2T
  | .ptup xs, .tup ys, G, Φ => xs ≠ [] ∧ xs.length + ys.length ≤ sizeLine ∧ Φ (.ptup (xs ++ ys)) G
  | _, _, _, _ => False
def rCatP (K : Fr0) : R2 := fun x y H Q => ∃ a b xs ys, x = .ref a ∧ y = .ref b ∧ SqT K H a xs ∧ SqT K H b ys ∧ xs ≠ [] ∧ xs.length + ys.length ≤ sizeLine ∧
  (ys = [] → Q (.ref a) H) ∧ (ys ≠ [] → ∀ p ob, H p = none → ob.dict = none → Q (.ref p) (L2.upd H p (.frz ob (.tup (xs ++ ys)))))
theorem op_catP : OpR X (binaryOp .Add) (rCatP X.K) := by
  intro pins s σ H x y v u Q I rx ry h
  obtain ⟨a, b, xs, ys, rfl, rfl, ha, hb, hx, hz, q1, q2⟩ := h
  cases rx
  cases ry
  obtain ⟨its, r1, p1, _⟩ := I.tuple ha
  obtain ⟨its2, r2, p2, _⟩ := I.tuple hb
  refine HT.cat_tup p1 p2 (fun z => hx (r1.nil_iff.mp z)) (fun z => ⟨.ref a, H, I, rfl, q1 (r2.nil_iff.mp z)⟩) (fun z => ?_) (by rw [← r1.length, ← r2.length]; exact hz)
  exact ⟨.ref s.heap.objs.size, _, I.laid (t' := s.toks) (o := .frz (tupObj (its ++ its2)) (.tup (xs ++ ys))) (fun b ob q => Heap.get?_push_of_some _ q) (Nat.le_refl _) (frz_new (by rw [List.length_append]; exact hz) (r1.append r2) (Heap.get?_push_size _ rfl)), rfl,
    q2 (fun w => z (r2.nil_iff.mpr w)) _ _ (I.hok.fresh (Nat.le_refl _)) rfl⟩
theorem o_addP : OpR X (binaryOp .Add) (low2 X.K en addP) := by
  refine OpR.weak op_catP fun x y H Q ⟨t, u, G, Φ, rt, ru, g, q, k⟩ => ?_
  cases rt with
  | ptup h hd r =>
    cases ru with
    | tup h2 r2 =>
      obtain ⟨h0, hl, q⟩ := q
      refine ⟨_, _, _, _, rfl, rfl, .inl (.inr ⟨_, h⟩), h2, fun z => h0 ?_, by rw [r.length, r2.length]; exact hl, fun z => ?_, fun z p ob hp hd2 => ?_⟩
      · have := r.length; rw [z] at this; exact List.length_eq_zero_iff.mp this.symm
      · have e : ‹List T› = [] := by have := r2.length; rw [z] at this; exact List.length_eq_zero_iff.mp this.symm
        subst e
        rw [List.append_nil] at q
        exact k _ _ _ _ q (.ptup h hd r) g (Step.refl H G)
      · obtain ⟨r3, g3, s3⟩ := ptup_laid g hp hd2 (r.app r2)
        exact k _ _ _ _ q r3 g3 s3
    | _ => exact q.elim
  | _ => exact q.elim
/-- p.index(x), x a text that is there -/
def lPIx (la lb : LE) : LE := fun S G Φ => la S G fun t G1 => match t with
  | .ptup ts => lb S G1 fun u G2 => tixT (.tup ts) [u] G2 Φ
  | _ => False
theorem e_pindex (ho : E en X o la) (he : E en X e lb) (hs : starEach [e] X.env = [(false, eval e X.env)] := by rfl) (hbase : attributeBase o "index" X.env (eval o X.env) = eval o X.env := by rfl) (hline : (apos.endLine == cpos.line) = true := by rfl) :
    E en X (.Call (.Attribute o "index" apos) [e] [] cpos) (lPIx la lb) := by
  refine ⟨fun pins s σ H Q I ⟨S, G, Φ, sr, g, q, k⟩ => ?_⟩
  refine PySem.Call_method1 hbase hs hline (thn (PE.run ho pins s σ H (fun v H' => ∃ t G', (match t with
    | .ptup ts => lb S G' fun u G2 => tixT (.tup ts) [u] G2 Φ
    | _ => False) ∧ Rel X.K H' v t ∧ HRel X.K en H' G' ∧ Step H G H' G') I ⟨S, G, _, sr, g, q, fun t G' v H' a b c d => ⟨t, G', a, b, c, d⟩⟩) fun v s1 ⟨x, H1, I1, r1, t, G1, q1, rt, g1, s1'⟩ => ?_)
  cases rt with
  | @ptup p ob vs ts h hd r =>
    cases r1
    obtain ⟨ho1, hz, us, ru, ht⟩ := (show ObjOk X.prog X.w H1 s1.heap p (.frz ob (.tup vs)) from I1.hok p _ h)
    refine ⟨"tuple", _, PySem.F.plainAttrs_tuple, PySem.F.slot_tuple_index, PySem.F.type_tuple_index, ht.typeIs, fun a ea => ?_, Calls.callWith_builtin rfl (Calls.evalArgs_plain (Calls.spliced_cons ?_))⟩
    · cases ea; exact ⟨ob, ho1, hd⟩
    · have st0 := s1'.stay g
      refine thn (PE.run he pins s1 σ H1 (fun y H2 => ∃ u G2, tixT (.tup ts) [u] G2 Φ ∧ Rel X.K H2 y u ∧ HRel X.K en H2 G2 ∧ Step H1 G1 H2 G2) I1 ⟨S, G1, _, sr.stay st0, g1, q1, fun t G' v H' a b c d => ⟨t, G', a, b, c, d⟩⟩) fun u s2 ⟨y, H2, I2, r2, w, G2, q2, rw', g2, s2'⟩ => Calls.spliced_nil ?_
      have st := s2'.stay g1
      refine m_tindex (en := en) pins s2 σ H2 (.ref p) [y] _ [u] Q I2 rfl (.cons r2 .nil) ⟨.tup ts, [w], G2, Φ, .tup (.inl (.inr ⟨_, st.2 _ _ _ h⟩)) (r.stay st), .cons rw' .nil, g2, q2, fun t' G' v' H' a b c d => k t' G' v' H' a b c ((s1'.trans s2').trans d)⟩
  | _ => exact q1.elim
end
end Dv
namespace Dv
open PySem PySem.Spec PyProof.Rows L2
/-! ### defs with one keyword-only parameter -/
section
variable {P : Program} {w : World} {K : Fr0} {mg : Str → Option Value} {base : Heap} {x qual kw : Str} {st : Stmt} {N ps : List Str} {k j n : Nat} {sp : Sp2} {dt : T} {C : Addr}
/-- the def st, its keyword-only parameter kw with the default that stands for dt -/
structure DfK (K : Fr0) (mg : Str → Option Value) (x : Str) (st : Stmt) (ps : List Str) (n : Nat) (kw : Str) (dt : T) : Prop where
  ex : ∃ (f : Addr) (fd : FuncData) (dv : V), FunD K x x (defArgs st) (defBody st) (defScope st) [] [(kw, dv)] f fd ∧ mg x = some (.ref f) ∧ (∀ H, Rel K H dv dt) ∧
    (∃ g gV, KBn K fd ps n [kw] g gV ∧ GoodT K gV (fun ts us => ts ++ us)) ∧ ∃ ds, Vals [dv] ds ∧ Binds K fd ps ds
structure KnK (P : Program) (w : World) (K : Fr0) (mg : Str → Option Value) (base : Heap) (k : Nat) (x : Str) (n : Nat) (kw : Str) (sp : Sp2) : Prop where
  ex : ∃ (f : Addr) (fd : FuncData) (ps : List Str) (g : List Value → List Value → List Value) (gV : List V → List V → List V), FnOk P w K mg base (L2.CX P w) k f fd ps (lowSp K sp) ∧ mg x = some (.ref f) ∧ PySem.W.keepIn K (.ref f) = true ∧ KBn K fd ps n [kw] g gV ∧ GoodT K gV (fun ts us => ts ++ us)
theorem knK_of (D : DfK K mg x st ps n kw dt) (S : FnScope N ps (defScope st)) (len : ∀ ts G Φ ΦE, sp ts G Φ ΦE → ts.length = ps.length) (hbody : ∀ f, BodyOk P w K mg base N x (defScope st) f k (defBody st) sp) :
    KnK P w K mg base (k + 1) x n kw sp ∧ Kn P w K mg base (k + 1) x sp [dt] := by
  obtain ⟨f, fd, dv, F, hm, hdt, ⟨g, gV, hb, hg⟩, ds, hds, hb2⟩ := D.ex
  have ok := fn_TD (P := P) (w := w) (mg := mg) (base := base) F S len (hbody f)
  exact ⟨⟨f, fd, ps, g, gV, ok, hm, F.kp, hb, hg⟩, ⟨f, fd, ps, [dv], ds, ok, hm, F.kp, hb2, hds, fun H => .cons (hdt H) .nil⟩⟩
/-- the same of an __init__ -/
structure DfIK (K : Fr0) (mg : Str → Option Value) (x : Str) (C : Addr) (qual : Str) (st : Stmt) (ps : List Str) (n : Nat) (kw : Str) (dt : T) : Prop where
  ex : ∃ (f : Addr) (fd : FuncData) (dv : V), FunD K "__init__" qual (defArgs st) (defBody st) (defScope st) [] [(kw, dv)] f fd ∧ Mk K C f ∧ mg x = some (.ref C) ∧ (∀ H, Rel K H dv dt) ∧
    (∃ g gV, KBn K fd ps (n + 1) [kw] g gV ∧ GoodT K gV (fun ts us => ts ++ us)) ∧ ∃ ds, Vals [dv] ds ∧ Binds K fd ps ds
structure KnIK (P : Program) (w : World) (K : Fr0) (mg : Str → Option Value) (base : Heap) (k : Nat) (x : Str) (C : Addr) (n : Nat) (kw : Str) (sp : Sp2) : Prop where
  ex : ∃ (f : Addr) (fd : FuncData) (ps : List Str) (g : List Value → List Value → List Value) (gV : List V → List V → List V), FnOk P w K mg base (L2.CX P w) k f fd ps (lowSp K sp) ∧ Mk K C f ∧ mg x = some (.ref C) ∧ KBn K fd ps (n + 1) [kw] g gV ∧ GoodT K gV (fun ts us => ts ++ us)
theorem knIK_of (D : DfIK K mg x C qual st ps n kw dt) (S : FnScope N ps (defScope st)) (len : ∀ ts G Φ ΦE, sp ts G Φ ΦE → ts.length = ps.length) (hbody : ∀ f, BodyOk P w K mg base N qual (defScope st) f k (defBody st) sp) :
    KnIK P w K mg base (k + 1) x C n kw sp ∧ KnI P w K mg base (k + 1) x C sp [dt] := by
  obtain ⟨f, fd, dv, F, M, hm, hdt, ⟨g, gV, hb, hg⟩, ds, hds, hb2⟩ := D.ex
  have ok := fn_TD (P := P) (w := w) (mg := mg) (base := base) F S len (hbody f)
  exact ⟨⟨f, fd, ps, g, gV, ok, M, hm, hb, hg⟩, ⟨f, fd, ps, [dv], ds, ok, M, hm, hb2, hds, fun H => .cons (hdt H) .nil⟩⟩
end
section
variable {X : Cx} {e o : Expr} {es : List Expr} {l lk : LA} {pos p : Pos} {k n : Nat} {x kw : Str} {sp : Sp2} {C : Addr} {kws : List Keyword}
theorem e_knK (F : KnK X.prog X.w X.K X.mg X.base k x n kw sp) (hr : Room k X.A) (ha : Ea en X (e :: es) l) (hkw : Ek en X kws lk) (hg : Gl X x := by rfl) (hall : (backToKw pos (keywordEach kws X.env)).all (·.1.isSome) = true := by rfl) (hks : (backToKw pos (keywordEach kws X.env)).filterMap (·.1) = [kw] := by rfl)
    (hdb : (x == ("__debug__" : Str)) = false := by decide) (he : starEach (e :: es) X.env = (false, eval e X.env) :: starEach es X.env := by rfl)
    (hpl : ((backTo pos (starEach (e :: es) X.env)).any (·.1) || (backToKw pos (keywordEach kws X.env)).any (·.1.isNone)) = false := by rfl) :
    E en X (.Call (.Name x p) (e :: es) kws pos) (lCallN n 1 sp (fun ts us => ts ++ us) noX l lk) := by
  obtain ⟨f, fd, ps, g, gV, ok, hm, hk, hb, hg'⟩ := F.ex
  exact e_callN ok hr hm hk hb hg' passN ha hkw hg hall hks hdb he hpl
theorem e_kiK (F : KnIK X.prog X.w X.K X.mg X.base k x C n kw sp) (hr : Room (k + 1) X.A) (ha : Ea en X (e :: es) l) (hkw : Ek en X kws lk) (hg : Gl X x := by rfl) (hall : (backToKw pos (keywordEach kws X.env)).all (·.1.isSome) = true := by rfl) (hks : (backToKw pos (keywordEach kws X.env)).filterMap (·.1) = [kw] := by rfl)
    (hdb : (x == ("__debug__" : Str)) = false := by decide) (he : starEach (e :: es) X.env = (false, eval e X.env) :: starEach es X.env := by rfl)
    (hpl : ((backTo pos (starEach (e :: es) X.env)).any (·.1) || (backToKw pos (keywordEach kws X.env)).any (·.1.isNone)) = false := by rfl) :
    E en X (.Call (.Name x p) (e :: es) kws pos) (lMakeK C n 1 sp (fun ts us => ts ++ us) noX l lk) := by
  obtain ⟨f, fd, ps, g, gV, ok, M, hm, hb, hg'⟩ := F.ex
  exact e_makeK M ok hr hm hb hg' passN ha hkw hg hall hks hdb he hpl
end
end Dv
namespace Dv
open PySem PySem.Spec PyProof.Rows L2
/-! ### a def with one keyword-only parameter whose default is (), as it stands behind the top -/
section
variable {P : Program} {w : World} {K : Fr0} {mg : Str → Option Value} {x x2 qual kw : Str} {st : Stmt} {ps : List Str} {n : Nat} {f D TT C : Addr} {oc : Value} {od an : Option Addr} {osl : Array (Option Value)} {doc pm cdv ct : Value} {dd : Option Addr} {nn : Nat} {tsl : Array (Option Value)}
theorem funD_mk (l : K.lookup f = some ⟨oc, od, .func (PySem.W.fnOf x qual (defArgs st) (defBody st) (defScope st) .none (.ref D) doc pm an cdv ct), osl⟩)
    (c : PySem.W.codeIn K cdv qual = true) (k : PySem.W.keepIn K (.ref f) = true) (hd : PySem.W.nsIn K D kw = some (some (.ref TT))) :
    FunD K x qual (defArgs st) (defBody st) (defScope st) [] [(kw, .ref TT)] f (PySem.W.fnOf x qual (defArgs st) (defBody st) (defScope st) .none (.ref D) doc pm an cdv ct) :=
  ⟨⟨oc, od, .none, .ref D, doc, pm, an, cdv, ct, osl, rfl, l, c, .inl ⟨rfl, rfl⟩, .inr ⟨D, rfl, fun q hq => by
    rw [List.mem_singleton.mp hq]
    exact ⟨.ref TT, hd, rfl⟩⟩⟩, k⟩
theorem tt_rel (lT : K.lookup TT = some ⟨.type "tuple", dd, .seq #[] nn, tsl⟩) : ∀ H, Rel K H (.ref TT) (.tup []) := fun H =>
  .tup (xs := []) (.inr ⟨_, _, _, lT, rfl, rfl, (by rw [sizeLine_eq]; exact Nat.zero_le _), .nil⟩) .nil
theorem kb_mk {fd : FuncData} (F : FunD K x qual (defArgs st) (defBody st) (defScope st) [] [(kw, .ref TT)] f fd)
    (h1 : ∀ (D : Addr) (doc pm : Value) (an : Option Addr) (cdv ct : Value) (us ws : List Value), us.length = n → ws.length = 1 →
      bindArgs (PySem.W.fnOf x qual (defArgs st) (defBody st) (defScope st) .none (.ref D) doc pm an cdv ct) ⟨us, [kw].zip ws⟩ = pure (ps.zip (us ++ ws))) :
    ∃ g gV, KBn K fd ps n [kw] g gV ∧ GoodT K gV (fun ts us => ts ++ us) := by
  obtain ⟨mv, h⟩ := F.kbinds0 n [kw] [] (fun us _ ws => us ++ ws) (by simp) (by simp) (fun r1 _ r3 => r1.append r3) (fun D doc pm an cdv ct us mv ws e1 _ e3 => h1 D doc pm an cdv ct us ws e1 e3)
  exact ⟨_, _, h, fun H vs ts ws us a b => a.app b⟩
theorem b0_mk {fd : FuncData} (F : FunD K x qual (defArgs st) (defBody st) (defScope st) [] [(kw, .ref TT)] f fd) (hn : n + 1 = ps.length)
    (h2 : ∀ (D : Addr) (doc pm : Value) (an : Option Addr) (cdv ct : Value) (us : List Value) (v : Value), us.length = n →
      KwChain D [(kw, v)] (bindArgs (PySem.W.fnOf x qual (defArgs st) (defBody st) (defScope st) .none (.ref D) doc pm an cdv ct) ⟨us, []⟩) (ps.zip (us ++ [v]))) :
    ∃ ds, Vals [V.ref TT] ds ∧ Binds K fd ps ds :=
  F.binds0 n (by simp) (by simpa using hn) fun D doc pm an cdv ct us ks e1 e2 => by
    match ks, e2 with
    | [v], _ => exact h2 D doc pm an cdv ct us v e1
end
end Dv
namespace Dv
open PySem PySem.Spec PyProof.Rows L2 PySem.Froz
/-! ### sorted(set(texts)) -/
/-- the set at a holds the texts l, and can be walked -/
structure TxS (P : Program) (w : World) (h : Heap) (a : Addr) (l : List Str) : Prop where
  ex : ∃ D : SD, h.get? a = some (sObj "set" D) ∧ TxOk P w D l ∧ Ris D.2.2.place.toList ∧ (w.params.followText "set-order" = true ∨ D.2.2.led = true)
  nd : l.Nodup
def newSet (w : World) : Obj := { cls := .type "set", dict := none, data := .set #[] 0 (.fresh 0 0 (!w.params.followText "set-order")) }
section
variable {P : Program} {w : World} {A : Around} {E : Value → Shared → Prop} {s : Shared}
theorem TxS.at {h h' : Heap} {a : Addr} {l : List Str} (x : TxS P w h a l) (k : ∀ o, h.get? a = some o → h'.get? a = some o) : TxS P w h' a l := by
  obtain ⟨⟨D, e, r⟩, nd⟩ := x
  exact ⟨⟨D, k _ e, r⟩, nd⟩
theorem txS_new {h : Heap} {a : Addr} (e : h.get? a = some (newSet w)) : TxS P w h a [] :=
  ⟨⟨(#[], 0, .fresh 0 0 (!w.params.followText "set-order")), e, .nil (by rfl), List.Pairwise.nil, by
    show _ ∨ (!w.params.followText "set-order") = true
    cases w.params.followText "set-order"
    · exact .inr rfl
    · exact .inl rfl⟩, List.nodup_nil⟩
theorem tail_walk {ep : Nat} {es : Array (Int × Value)} {t : SetTable} {b : Bool} (r : Ris t.place.toList) : Ris (tailTx ep es t b).2.2.place.toList ∧ (tailTx ep es t b).2.2.led = t.led := by
  unfold tailTx
  split
  · exact ⟨relayAll_ris t es _, relayAll_led t es _⟩
  · exact ⟨r, rfl⟩
theorem add_walk {h : Int} {v : Value} {D : SD} (r : Ris D.2.2.place.toList) : Ris (addTx h v D).2.2.place.toList ∧ (addTx h v D).2.2.led = D.2.2.led := by
  have r1 := layNew_ris D.2.2 D.1 h v r
  have l1 := layNew_led D.2.2 D.1 h v
  unfold addTx
  by_cases c : (layNew D.2.2 D.1 h v).2.1.plain = true
  · simp only [if_pos c]
    have := tail_walk (ep := D.2.1) (es := (layNew D.2.2 D.1 h v).1) (t := { (layNew D.2.2 D.1 h v).2.1 with plain := false }) (b := (layNew D.2.2 D.1 h v).2.2.1) r1
    exact ⟨this.1, this.2.trans l1⟩
  · simp only [if_neg c]
    have := tail_walk (ep := D.2.1) (es := (layNew D.2.2 D.1 h v).1) (t := (layNew D.2.2 D.1 h v).2.1) (b := (layNew D.2.2 D.1 h v).2.2.1) r1
    exact ⟨this.1, this.2.trans l1⟩
/-- a text that is there already -/
theorem add_again {a : Addr} {D : SD} {l : List Str} {k : Str} {u : Tok} {Q : Bool → Shared → Prop} (ho : s.heap.get? a = some (sObj "set" D)) (F : TxOk P w D l) (hk : k ∈ l) (hb : l.length + 1 < scanBound)
    (h : Q false s) : wpAny (model P w) A (setAddHashed a (.str k u) (hashStr w k)) Q E s := by
  obtain ⟨es, ep, t⟩ := D
  have hel : ElemsOf (strKind P w) es.toList := F.el
  have hz : es.size = l.length := F.sz
  have hb0 : es.size < scanBound := by omega
  have hkey : (strKind P w).is k (.str k u) = true := is_str k u
  unfold setAddHashed setAddHashedIn
  refine wpAny_holding (wpAny_bind (wpAny_setState_of ho rfl F.fit ?_))
  dsimp only
  rw [byScan_of rfl hb0 hel]
  simp only [↓reduceIte]
  unfold setAddByScan
  refine wpAny_bind (wpAny_bind (wpAny_rule (wpAny_bind (wpAny_setScan_of (knd := strKind P w) (k := k) hkey ho rfl F.fit hel ?_))))
  cases hr : List.findIdx? (fun e => (strKind P w).is k e.2) es.toList with
  | none =>
    obtain ⟨e, he, q⟩ := (F.mem k).mp hk
    have c := List.findIdx?_eq_none_iff.mp hr e he
    rw [q] at c
    cases c
  | some j => exact wpAny_pure (wpAny_pure h)
/-- the add of a text, told in full -/
theorem add_text {a : Addr} {l : List Str} {k : Str} {u : Tok} {Q : Bool → Shared → Prop} (x : TxS P w s.heap a l) (hb : l.length + 1 < scanBound)
    (h : ∀ (b : Bool) (h' : Heap) (tk : Nat) (l' : List Str), TxS P w h' a l' → l'.length ≤ l.length + 1 → (∀ y, y ∈ l' ↔ y ∈ l ∨ y = k) → (∀ c, c ≠ a → h'.get? c = s.heap.get? c) → s.toks ≤ tk → Q b { s with heap := h', toks := tk }) :
    wpAny (model P w) A (setAdd a (.str k u)) Q E s := by
  obtain ⟨⟨D, ho, F, r, ld⟩, nd⟩ := x
  unfold setAdd
  refine wpAny_holding (wpAny_bind ((strKind P w).pyHash (k := k) (is_str k u) ?_))
  by_cases hk : k ∈ l
  · exact add_again (s := { s with toks := s.toks + 1 }) ho F hk hb (h _ _ _ l ⟨⟨D, ho, F, r, ld⟩, nd⟩ (Nat.le_succ _) (fun y => ⟨.inl, fun z => z.elim id fun z => z ▸ hk⟩) (fun _ _ => rfl) (Nat.le_succ _))
  · refine add_x (s := { s with toks := s.toks + 1 }) ho F hk hb ?_
    obtain ⟨r1, l1⟩ := add_walk (h := hashStr w k) (v := .str k u) r
    refine h _ _ _ (k :: l) ⟨⟨_, get_upd _ ho rfl, add_ok u F, r1, ld.imp id fun z => by rw [l1]; exact z⟩, List.nodup_cons.mpr ⟨hk, nd⟩⟩ (Nat.le_refl _) (fun y => by rw [List.mem_cons]; exact Or.comm) (fun c hc => ?_) (Nat.le_succ _)
    exact Heap.get?_update_ne _ _ _ _ hc
/-- all texts that are walked are added -/
theorem addAll_texts {I : Addr} {fp wr : List Addr} {G : Array GenState → Array GenState → Prop} {n : Nat} {Pv : Nat → Value → Prop} {St : Nat → Shared → Prop} {R : Result → Shared → Prop} (W : WalksS P w A.in1 I fp wr G n Pv St)
    (S : Addr) (out : S ∉ fp) (xs : List Str) (hn : n = xs.length) (hb : xs.length + 1 < scanBound) (hval : ∀ i v, Pv i v → ∃ k t, xs[i]? = some k ∧ v = .str k t) :
    ∀ (m i : Nat) (s : Shared), n - i = m → i ≤ n → St i s → (∃ l, TxS P w s.heap S l ∧ l.length ≤ i ∧ ∀ y, y ∈ l ↔ y ∈ xs.take i) →
      (∀ s' l, Moved (S :: wr) G s s' → TxS P w s'.heap S l → l.length ≤ n → (∀ y, y ∈ l ↔ y ∈ xs) → R (.ok (.ret .none)) s') → codeAny (model P w) A (.builtin "set.update.loop" ⟨[.ref S, .ref I], []⟩) R s := by
  have noS : S ∉ wr := fun z => out (W.sub _ z)
  have more : ∀ b ∈ wr, b ∈ S :: wr := fun b z => List.mem_cons_of_mem _ z
  intro m
  induction m with
  | zero =>
    rintro i s hm hi st ⟨l, hl, hc, hx⟩ hR
    obtain rfl : i = n := by omega
    refine codeAny_builtin F.entry_set_update_loop ?_
    rw [Around.under_plainId F.plain_set_update_loop _]
    refine wpAny_bind (m := pyNext (.ref I)) (W.done s _ _ st fun s' mv => wpAny_pure (hR s' l (mv.mono more) (hl.at fun o e => mv.heap S o noS e) hc fun y => ?_))
    rw [hx y, List.take_of_length_le (by omega)]
  | succ m ih =>
    rintro i s hm hi st ⟨l, hl, hc, hx⟩ hR
    have lt : i < n := by omega
    refine codeAny_builtin F.entry_set_update_loop ?_
    rw [Around.under_plainId F.plain_set_update_loop _]
    refine wpAny_bind (m := pyNext (.ref I)) (W.item i s _ _ lt st fun v s1 hv st1 mv => ?_)
    obtain ⟨z, t, hz, rfl⟩ := hval i v hv
    show wpAny _ A.in1 (holding [Value.str z t] (setAdd S (.str z t)) >>= _) _ _ s1
    refine wpAny_bind (wpAny_holding (add_text (hl.at fun o e => mv.heap S o noS e) (by omega) fun b h' tk l' hl' hc' hx' same le => ?_))
    refine wpAny_pure ⟨plainId_quiet F.plain_set_update_loop _, ih (i + 1) _ (by omega) lt (W.frame _ s1 _ _ st1 le fun c hcf o e => ?_) ⟨l', hl', by omega, fun y => ?_⟩ fun s2 l2 mv2 hl2 hc2 hx2 => ?_⟩
    · rw [same c fun z => out (by rw [← z]; exact hcf)]; exact e
    · rw [hx' y, hx y, List.take_add_one, hz]
      simp [List.mem_append]
    · refine hR s2 l2 (Moved.trans W.gtrans ((mv.mono more).then_heap le fun c o hcf e => ?_) mv2) hl2 hc2 hx2
      rw [same c fun z => hcf (by rw [z]; exact List.mem_cons_self)]; exact e


/-- what set(x) runs to -/
def SetEnd (E : Value → Shared → Prop) (q : Shared → Prop) : Result → Shared → Prop := fun r s₂ => match r with
  | .ok (.ret v) => v = .none ∧ q s₂
  | .error e => E e s₂
  | _ => False
/-- set(x): the class makes the empty one, its maker fills it -/
theorem set_made {l : Addr} {Q : Value → Shared → Prop} (hh : A.handled = none)
    (h : ∀ B : Around, B.handled = none → wpAny (model P w) B.in1 (Builtin.«set.__init__» ⟨[.ref s.heap.objs.size, .ref l], []⟩)
      (fun fin s₂ => match fin with | .done f => SetEnd E (Q (.ref s.heap.objs.size)) (.ok f) s₂ | .again c => c.quiet = true ∧ codeAny (model P w) B c (SetEnd E (Q (.ref s.heap.objs.size))) s₂) E { s with heap := s.heap.push (newSet w) }) :
    wpAny (model P w) A (call (.type "set") [.ref l]) Q E s := by
  have ⟨c, tl, hm⟩ := F.called_set.mro
  have h1 := F.called_set.made
  have h2 := F.called_set.sub
  have h3 := F.called_set.notType
  have h4 := F.called_set.canCreate
  have h5 := F.typeCall_set_1 (.ref l)
  refine wpAny_call (codeAny_of_tree (wpAny_pure ⟨Code.quiet_builtin _ (by decide +kernel), codeAny_builtin F.entry_type_call ?_⟩))
  rw [Around.under_plain (weight_type_call_type "set" [.ref l] []) rfl]
  repeat (any_goals (first | assumption | wp_step))
  refine codeAny_mono (code_set_led1 (.ref l) (E := E) (Q₁ := fun o z => o = .ref s.heap.objs.size ∧ z = { s with heap := s.heap.push (newSet w) }) ⟨rfl, rfl⟩) fun r z hz => ?_
  cases r with
  | error _ => exact hz
  | ok f =>
    cases f with
    | ret o =>
      obtain ⟨rfl, rfl⟩ := hz
      have hT : Shared.TypeIs { s with heap := s.heap.push (newSet w) } (.ref s.heap.objs.size) "set" := ⟨_, Heap.get?_push_size _ rfl, rfl⟩
      have i1 := F.called_set.init.lookup
      have i2 := F.called_set.init.bind (.ref s.heap.objs.size)
      repeat (any_goals (first | assumption | wp_step))
      refine codeAny_mono (codeAny_call_builtin (R := SetEnd E (Q (.ref s.heap.objs.size))) F.called_set.init.plain F.entry_set_init (check_set_init_1 hT (h _ ?_))) fun r2 z2 hz2 => ?_
      · simp [hh]
      · cases r2 with
        | error e => exact hz2
        | ok f2 =>
          cases f2 with
          | ret v =>
            obtain ⟨rfl, q⟩ := hz2
            repeat (any_goals (first | assumption | wp_step))
          | _ => exact hz2.elim
    | _ => exact hz.elim

theorem str_get : ∀ {us : List Value} {xs : List Str}, StrsAre us xs → ∀ (i : Nat) (v : Value), us[i]? = some v → ∃ k t, xs[i]? = some k ∧ v = .str k t
  | _, _, .nil, _, _, h => by cases h
  | _, _, .cons x t r, 0, v, h => by cases h; exact ⟨x, t, rfl, rfl⟩
  | _, _, .cons x t r, i + 1, v, h => str_get r i v h

theorem set_texts_list {l : Addr} {items : Array Value} {Q : Value → Shared → Prop} (xs : List Str) (hh : A.handled = none) (hl : s.heap.IsList l items) (hit : StrsAre items.toList xs) (hb : xs.length + 1 < scanBound)
    (h : ∀ (h' : Heap) (tk : Nat) (ys : List Str), TxS P w h' s.heap.objs.size ys → ys.length ≤ xs.length → (∀ y, y ∈ ys ↔ y ∈ xs) → (∀ b o, s.heap.get? b = some o → h'.get? b = some o) → Q (.ref s.heap.objs.size) { s with heap := h', toks := tk }) :
    wpAny (model P w) A (call (.type "set") [.ref l]) Q E s := by
  refine set_made hh fun B hB => ?_
  have n1 : items.size = xs.length := by
    have q := hit.len_eq
    rwa [Array.length_toList] at q
  obtain ⟨⟨_, od, _, os⟩, ho, hc, n, hd⟩ := hl
  simp only at hc hd
  subst hc hd
  have lt : l < s.heap.objs.size := Heap.lt_size ho
  have hl : s.heap.IsList l items := ⟨_, ho, rfl, n, rfl⟩
  have ho' : (s.heap.push (newSet w)).get? l = some { cls := .type "list", dict := od, data := .seq items n, slots := os } := Heap.get?_push_of_some _ ho
  have j1 := F.sub_list_set
  have j2 := F.sub_list_frozenset
  have j3 : (Value.type "list" == Value.type "dict") = false := by decide
  unfold Builtin.«set.__init__» noKeywords Builtin.Frozenset.updateFrom
  generalize hPI : pyIter = PI
  wp_walk
  subst hPI
  refine wpAny_pyIter_list (hl.push _) (wpAny_bind (wpAny_runValue ?_))
  have z1 : (s.heap.push (newSet w)).objs.size = s.heap.objs.size + 1 := Heap.size_push ..
  have ne : l ≠ (s.heap.push (newSet w)).objs.size := by rw [z1]; exact Nat.ne_of_lt (Nat.lt_succ_of_lt lt)
  have out : s.heap.objs.size ∉ [(s.heap.push (newSet w)).objs.size, l] := fun z => by
    rcases List.mem_cons.mp z with z | z
    · rw [z1] at z; exact absurd z (Nat.ne_of_lt (Nat.lt_succ_self _))
    · exact absurd (List.mem_singleton.mp z) (Nat.ne_of_gt lt)
  have hh3 : B.in1.in1.handled = none := by simp [hB]
  refine addAll_texts ((Walks.list hh3 _ l ne items).toS) s.heap.objs.size out xs n1 hb (fun i v hv => ?hv) (items.size - 0) 0 _ (by omega) (Nat.zero_le _) ⟨⟨_, Heap.get?_push_size _ rfl, rfl, rfl⟩, (hl.push _).push _⟩ ⟨[], txS_new (Heap.get?_push_of_some _ (Heap.get?_push_size _ rfl)), Nat.le_refl _, fun y => by simp⟩ ?hR
  case hv =>
    obtain ⟨k, t, e1, e2⟩ := str_get hit i v (by rw [Array.getElem?_toList]; exact hv)
    exact ⟨k, t, e1, e2⟩
  case hR =>
    intro z ys mv hys hc hm
    obtain ⟨h', g2, d2, tk, o2⟩ := z
    have e1 : g2 = s.gens := mv.gens
    have e2 : d2 = s.drawn := mv.drawn
    have e3 : o2 = s.os := mv.os
    subst e1 e2 e3
    refine wpAny_pure (wpAny_pure ⟨rfl, h h' tk ys hys (by omega) hm fun b o e => mv.heap b o ?_ (Heap.get?_push_of_some _ (Heap.get?_push_of_some _ e))⟩)
    have lb := Heap.lt_size e
    intro z
    rcases List.mem_cons.mp z with z | z
    · exact absurd z (Nat.ne_of_lt lb)
    · exact absurd ((List.mem_singleton.mp z).trans z1) (Nat.ne_of_lt (Nat.lt_succ_of_lt lb))

theorem set_texts_tuple {l : Addr} {items : Array Value} {Q : Value → Shared → Prop} (xs : List Str) (hh : A.handled = none) (hl : s.heap.IsTuple l items) (hit : StrsAre items.toList xs) (hb : xs.length + 1 < scanBound)
    (h : ∀ (h' : Heap) (tk : Nat) (ys : List Str), TxS P w h' s.heap.objs.size ys → ys.length ≤ xs.length → (∀ y, y ∈ ys ↔ y ∈ xs) → (∀ b o, s.heap.get? b = some o → h'.get? b = some o) → Q (.ref s.heap.objs.size) { s with heap := h', toks := tk }) :
    wpAny (model P w) A (call (.type "set") [.ref l]) Q E s := by
  refine set_made hh fun B hB => ?_
  have n1 : items.size = xs.length := by
    have q := hit.len_eq
    rwa [Array.length_toList] at q
  obtain ⟨⟨_, od, _, os⟩, ho, hc, n, hd⟩ := hl
  simp only at hc hd
  subst hc hd
  have lt : l < s.heap.objs.size := Heap.lt_size ho
  have hl : s.heap.IsTuple l items := ⟨_, ho, rfl, n, rfl⟩
  have ho' : (s.heap.push (newSet w)).get? l = some { cls := .type "tuple", dict := od, data := .seq items n, slots := os } := Heap.get?_push_of_some _ ho
  have j1 := F.sub_tuple_set
  have j2 := F.sub_tuple_frozenset
  have j3 : (Value.type "tuple" == Value.type "dict") = false := by decide
  unfold Builtin.«set.__init__» noKeywords Builtin.Frozenset.updateFrom
  generalize hPI : pyIter = PI
  wp_walk
  subst hPI
  refine wpAny_pyIter_tuple (hl.push _) (wpAny_bind (wpAny_runValue ?_))
  have z1 : (s.heap.push (newSet w)).objs.size = s.heap.objs.size + 1 := Heap.size_push ..
  have ne : l ≠ (s.heap.push (newSet w)).objs.size := by rw [z1]; exact Nat.ne_of_lt (Nat.lt_succ_of_lt lt)
  have out : s.heap.objs.size ∉ [(s.heap.push (newSet w)).objs.size, l] := fun z => by
    rcases List.mem_cons.mp z with z | z
    · rw [z1] at z; exact absurd z (Nat.ne_of_lt (Nat.lt_succ_self _))
    · exact absurd (List.mem_singleton.mp z) (Nat.ne_of_gt lt)
  have hh3 : B.in1.in1.handled = none := by simp [hB]
  refine addAll_texts ((Walks.tuple hh3 _ l ne items).toS) s.heap.objs.size out xs n1 hb (fun i v hv => ?hv) (items.size - 0) 0 _ (by omega) (Nat.zero_le _) ⟨⟨_, Heap.get?_push_size _ rfl, rfl, rfl⟩, (hl.push _).push _⟩ ⟨[], txS_new (Heap.get?_push_of_some _ (Heap.get?_push_size _ rfl)), Nat.le_refl _, fun y => by simp⟩ ?hR
  case hv =>
    obtain ⟨k, t, e1, e2⟩ := str_get hit i v (by rw [Array.getElem?_toList]; exact hv)
    exact ⟨k, t, e1, e2⟩
  case hR =>
    intro z ys mv hys hc hm
    obtain ⟨h', g2, d2, tk, o2⟩ := z
    have e1 : g2 = s.gens := mv.gens
    have e2 : d2 = s.drawn := mv.drawn
    have e3 : o2 = s.os := mv.os
    subst e1 e2 e3
    refine wpAny_pure (wpAny_pure ⟨rfl, h h' tk ys hys (by omega) hm fun b o e => mv.heap b o ?_ (Heap.get?_push_of_some _ (Heap.get?_push_of_some _ e))⟩)
    have lb := Heap.lt_size e
    intro z
    rcases List.mem_cons.mp z with z | z
    · exact absurd z (Nat.ne_of_lt lb)
    · exact absurd ((List.mem_singleton.mp z).trans z1) (Nat.ne_of_lt (Nat.lt_succ_of_lt lb))

theorem strsAre_of : ∀ {vs : List Value} {ks : List Str}, (∀ v ∈ vs, ∃ k t, v = Value.str k t) → vs.map strOf = ks → StrsAre vs ks
  | [], _, _, rfl => .nil
  | v :: vs, _, h, rfl => by
    obtain ⟨k, t, rfl⟩ := h v List.mem_cons_self
    exact .cons k t (strsAre_of (fun u hu => h u (List.mem_cons_of_mem _ hu)) rfl)
theorem perm_of_len : ∀ {l ks : List Str}, l.Nodup → (∀ y, y ∈ l → y ∈ ks) → ks.length = l.length → ks.Perm l
  | [], ks, _, _, e => by
    rw [List.length_eq_zero_iff.mp e]
  | a :: l, ks, nd, sub, e => by
    obtain ⟨n1, n2⟩ := List.nodup_cons.mp nd
    have ha : a ∈ ks := sub a List.mem_cons_self
    refine (List.perm_cons_erase ha).trans (List.Perm.cons a (perm_of_len n2 (fun y hy => ?_) ?_))
    · exact (List.mem_erase_of_ne fun z => n1 (by rw [← z]; exact hy)).mpr (sub y (List.mem_cons_of_mem _ hy))
    · rw [List.length_erase_of_mem ha, e]
      rfl
theorem tx_vals {D : SD} {l : List Str} (F : TxOk P w D l) (nd : l.Nodup) : (∀ v ∈ D.1.toList.map (·.2), ∃ k t, v = Value.str k t) ∧ ((D.1.toList.map (·.2)).map strOf).Perm l := by
  have tx : ∀ e ∈ D.1.toList, ∃ k t, e.2 = Value.str k t := fun e he => by
    obtain ⟨⟨k, hk, _⟩, _⟩ := F.el e he
    obtain ⟨t, q⟩ := Value.isStrOf_shape hk
    exact ⟨k, t, q⟩
  refine ⟨fun v hv => ?_, perm_of_len nd (fun y hy => ?_) ?_⟩
  · obtain ⟨e, he, rfl⟩ := List.mem_map.mp hv
    exact tx e he
  · obtain ⟨e, he, q⟩ := (F.mem y).mp hy
    obtain ⟨k, t, z⟩ := tx e he
    rw [z] at q
    have q : (k == y) = true := q
    rw [← eq_of_beq q]
    exact List.mem_map.mpr ⟨_, List.mem_map.mpr ⟨e, he, rfl⟩, by rw [z]; rfl⟩
  · rw [List.length_map, List.length_map, Array.length_toList, F.sz]
/-- sorted(the set) -/
theorem sorted_txS {a : Addr} {l : List Str} {Q : Value → Shared → Prop} (x : TxS P w s.heap a l) (hh : A.handled = none) (hl : l.length < scanBound) (hL : l.length ≤ sizeLine)
    (hQ : ∀ s' p (out : Array Value) (c : Nat) (ys : List Str), (∀ b o, s.heap.get? b = some o → s'.heap.get? b = some o) → s'.gens = s.gens → s'.os = s.os → s.heap.objs.size ≤ p →
      s'.heap.get? p = some (seqObj "list" out c) → StrsAre out.toList ys → sortedS ys = true → ys.Perm l → Q (.ref p) s') :
    wpAny (model P w) A (call (.builtin "sorted") [.ref a]) Q E s := by
  obtain ⟨⟨D, ho, F, r, ld⟩, nd⟩ := x
  have sz : D.1.size = l.length := F.sz
  obtain ⟨t1, t2⟩ := tx_vals F nd
  refine Calls.call_function_entry kind_sorted plain_sorted entry_sorted (args_sorted1 _) (wpAny_bind (m := checkCount "sorted" 1 1 _) (wpAny_pure ?_))
  refine wpAny_bind (collect_set (A := A.in1) hh ⟨_, ho, rfl, rfl⟩ F.fit (by omega) r ld fun s1 vs k1 hz g1 o1 pm => ?_)
  have n1 : vs.length = l.length := by rw [pm.length_eq, List.length_map, Array.length_toList, sz]
  have hS : StrsAre vs (vs.map strOf) := strsAre_of (fun v hv => t1 v (pm.mem_iff.mp hv)) rfl
  have pl : (vs.map strOf).Perm l := (pm.map strOf).trans t2
  refine wpAny_bind (wpAny_newList ?_ (by rw [n1]; exact hL))
  have hoL : (s1.heap.push (seqObj "list" vs.toArray 0)).get? s1.heap.objs.size = some (seqObj "list" vs.toArray 0) := Heap.get?_push_size _ rfl
  refine wpAny_bind (wpAny_holding (wpAny_call_entry slot_list_sort ⟨_, hoL, rfl⟩ entry_list_sort (list_sort_treeKAny strKind_oneLt hoL hS.keysOf (fun v₁ v₂ rest e => keyKind_strs (by rw [← e]; exact hS)) (by rw [n1]; exact hL) fun st p1 p2 => ⟨_, rfl, ?_⟩) (args_list_sort _)))
  obtain ⟨ys, y1, y2, y3⟩ := sorted_out_str hS p1 p2
  obtain ⟨c, hc⟩ := sortedHeap_at (vs := vs) (out := (arrOf st).map (·.2)) hoL
  refine wpAny_pure ⟨_, rfl, hQ _ s1.heap.objs.size _ c ys (fun b u e => ?_) g1 o1 hz hc y1 y3 (y2.trans pl)⟩
  have q := k1 b u e
  have lt := Heap.lt_size q
  show (sortedHeap (s1.heap.push (seqObj "list" vs.toArray 0)) s1.heap.objs.size vs _).get? b = some u
  rw [sortedHeap_old (Nat.ne_of_lt lt) (by rw [size_push']; exact Nat.lt_succ_of_lt lt)]
  exact Heap.get?_push_of_some _ q
end

theorem strs_of : ∀ {xs : List Str} {us : List Value}, L2.Vals (xs.map V.str) us → StrsAre us xs
  | [], _, .nil => .nil
  | x :: xs, _, .cons r t => by
    obtain ⟨k, rfl⟩ := r
    exact .cons x k (strs_of t)
/-! ### sorted(set(e)) as one expression -/
open L2
section
variable {X : Cx} {es : List Expr} {e : Expr} {ta : TA} {p p2 q pos : Pos} {en : En}
/-- the sorted texts of a list or tuple, each once -/
def rSSet (K : Fr0) : List V → Hp → VK → Prop := fun vs H Q => ∃ (a : Addr) (xs : List Str), vs = [.ref a] ∧ (SqL K H a (xs.map V.str) ∨ SqT K H a (xs.map V.str)) ∧ xs.length ≤ 1000 ∧
  ∀ (ys : List Str) (p : Addr), sortedS ys = true → ys.Nodup → (∀ y, y ∈ ys ↔ y ∈ xs) → ys.length ≤ xs.length → H p = none → Q (.ref p) (L2.upd H p (.lst (ys.map V.str)))
def tSSet (K : Fr0) (ta : TA) : TE := fun σ H Q => ta σ H fun vs H1 => rSSet K vs H1 Q
theorem vals_strs : ∀ {us : List Value} {ys : List Str}, StrsAre us ys → Vals (ys.map V.str) us
  | _, _, .nil => .nil
  | _, _, .cons y t r => .cons ⟨t, rfl⟩ (vals_strs r)
theorem pe_sset (hc : X.calm = true) (hg : Gl X "sorted") (hm : X.mg "sorted" = none) (hg2 : Gl X "set") (hm2 : X.mg "set" = none) (ha : PA X [e] ta) (hs : starEach [e] X.env = [(false, eval e X.env)] := by rfl)
    (na : starEach [.Call (.Name "set" p2) [e] [] q] X.env = (false, eval (.Call (.Name "set" p2) [e] [] q) X.env) :: starEach [] X.env := by rfl) :
    PE X (.Call (.Name "sorted" p) [.Call (.Name "set" p2) [e] [] q] [] pos) (tSSet X.K ta) := by
  refine ⟨fun pins s σ H Q I h => ?_⟩
  refine Call_ (ld_blt I hg hm boot_sorted ?_)
  refine PyProof.Rows.callWith_builtin1 (PyProof.Rows.args_cons ?_ na) na rfl
  refine Call_ (ld_blt I hg2 hm2 boot_set (PyProof.Rows.callWith_type1 (thn (ha.run q pins s σ H _ I h) fun us s1 ⟨vs, H1, I1, r1, q1⟩ => ?_) hs rfl))
  obtain ⟨a, xs, rfl, hq, hl, q1⟩ := q1
  rw [Vals.ref1 r1]
  have hd := I1.ok.hd hc
  have fin : ∀ (h' : Heap) (tk : Nat) (ys : List Str), TxS X.prog X.w h' s1.heap.objs.size ys → ys.length ≤ xs.length → (∀ y, y ∈ ys ↔ y ∈ xs) → (∀ b o, s1.heap.get? b = some o → h'.get? b = some o) →
      wpAny (model X.prog X.w) X.A (spliced (backTo pos (starEach [] X.env))) (fun vs s₂ => wpAny (model X.prog X.w) X.A (call (.builtin "sorted") (Value.ref s1.heap.objs.size :: vs)) (EP X pins σ Q) X.xe s₂) X.xe { s1 with heap := h', toks := tk } := by
    intro h' tk ys ty n1 hm1 k1
    refine PyProof.Rows.args_nil ?_
    refine sorted_txS (s := { s1 with heap := h', toks := tk }) ty hd (by unfold scanBound; omega) (by rw [sizeLine_eq]; omega) fun s' p out c zs k g o hp hg hi hz pm => ?_
    have zl : (zs.map V.str).length ≤ sizeLine := by rw [List.length_map, pm.length_eq, sizeLine_eq]; omega
    have hp1 : s1.heap.objs.size ≤ p := by
      obtain ⟨_, ho, _⟩ := ty.ex
      exact Nat.le_trans (Nat.le_of_lt (Heap.lt_size ho)) hp
    have hn : H1 p = none := I1.hok.fresh hp1
    have kk : ∀ b o, s1.heap.get? b = some o → s'.heap.get? b = some o := fun b o e => k b o (k1 b o e)
    have J : Inv X pins σ (L2.upd H1 p (.lst (zs.map V.str))) { s1 with heap := s'.heap, gens := s'.gens, drawn := s'.drawn, toks := s'.toks } :=
      I1.call (ch := []) (Un.laid kk hp1 hn) (I1.hok.laid kk hp1 ⟨zl, out.toList, c, vals_strs hi, hg⟩) (by rw [g]; exact I1.bare) (fun _ z => nomatch z)
    have e : s' = { s1 with heap := s'.heap, gens := s'.gens, drawn := s'.drawn, toks := s'.toks } := by
      cases s'
      cases s1
      cases o
      rfl
    rw [e]
    exact ⟨.ref p, _, J, rfl, q1 zs p hz (pm.nodup_iff.mpr ty.nd) (fun y => by rw [pm.mem_iff, hm1]) (by rw [pm.length_eq]; exact n1) hn⟩
  rcases hq with hq | hq
  · obtain ⟨its, r, pl, hz⟩ := I1.list hq
    exact set_texts_list xs hd pl.isList (by simpa using strs_of r) (by unfold scanBound; omega) fun h' tk ys a1 a2 a3 a4 => fin h' tk ys a1 a2 a3 a4
  · obtain ⟨its, r, pl, hz⟩ := I1.tuple hq
    exact set_texts_tuple xs hd pl (by simpa using strs_of r) (by unfold scanBound; omega) fun h' tk ys a1 a2 a3 a4 => fin h' tk ys a1 a2 a3 a4

theorem RelL.strsI {K : Fr0} {H : Hp} : ∀ {vs : List V} {ss : List Str}, RelL K H vs (ss.map T.str) → vs = ss.map V.str
  | _, [], .nil => rfl
  | _, _ :: _, .cons (.str _) r => by rw [RelL.strsI r]; rfl
def ssetK (xs : List T) (k : List Str → Prop) : Prop := ∃ ss : List Str, xs = ss.map T.str ∧ ss.length ≤ 1000 ∧ ∀ ys, sortedS ys = true → ys.Nodup → (∀ y, y ∈ ys ↔ y ∈ ss) → ys.length ≤ ss.length → k ys
def ssetT : RLT := fun ts G Φ => match ts with
  | [.tup xs] => ssetK xs fun ys => ∀ p, G p = none → Φ (.ref p) (gup G p (.lst (ys.map T.str)))
  | [.ref a] => (match G a with
    | some (.lst xs) => ssetK xs fun ys => ∀ p, G p = none → Φ (.ref p) (gup G p (.lst (ys.map T.str)))
    | _ => False)
  | _ => False
theorem b_ssetE {l : LA} (hm : X.mg "sorted" = none) (hm2 : X.mg "set" = none) (ha : Ea en X [e] l) (hg : Gl X "sorted" := by rfl) (hg2 : Gl X "set" := by rfl) (hc : X.calm = true := by rfl) (hs : starEach [e] X.env = [(false, eval e X.env)] := by rfl)
    (na : starEach [.Call (.Name "set" p2) [e] [] q] X.env = (false, eval (.Call (.Name "set" p2) [e] [] q) X.env) :: starEach [] X.env := by rfl) :
    E en X (.Call (.Name "sorted" p) [.Call (.Name "set" p2) [e] [] q] [] pos) (lCB ssetT l) := by
  refine PE.weak (pe_sset hc hg hm hg2 hm2 ha hs na) fun σ H Q ⟨S, G, Φ, s, g, q0, k⟩ => ⟨S, G, _, s, g, q0, fun ts G1 vs H1 q1 r1 g1 s1 => ?_⟩
  unfold ssetT at q1
  split at q1
  · cases r1 with
    | cons h1 h2 =>
      cases h2
      cases h1 with
      | tup hs rs =>
        obtain ⟨ss, rfl, hl, q1⟩ := q1
        have e := rs.strsI
        subst e
        refine ⟨_, ss, rfl, .inr hs, hl, fun ys p y1 y2 y3 y4 hp => ?_⟩
        obtain ⟨g2, s2⟩ := lst_laid g1 hp (strs_rel ys)
        exact k _ _ _ _ (q1 ys y1 y2 y3 y4 p (g1.fresh hp)) (.ref p) g2 (s1.trans s2)
  · cases r1 with
    | cons h1 h2 =>
      cases h1
      cases h2
      split at q1
      · rename_i xs e1
        obtain ⟨ss, rfl, hl, q1⟩ := q1
        obtain ⟨vs, h1, r2⟩ := g1.obj _ _ e1
        have e := r2.strsI
        subst e
        refine ⟨_, ss, rfl, .inl (SqL.of h1), hl, fun ys p y1 y2 y3 y4 hp => ?_⟩
        obtain ⟨g2, s2⟩ := lst_laid g1 hp (strs_rel ys)
        exact k _ _ _ _ (q1 ys y1 y2 y3 y4 p (g1.fresh hp)) (.ref p) g2 (s1.trans s2)
      · exact q1.elim
  · exact q1.elim
end
end Dv
/-! Values over deep values: lists, dicts, objects are values here; what a def may change is owned by one name. -/
namespace Vl
open PySem L2 Dv
inductive PV where
  | non | bl (b : Bool) | int (i : Int) | str (x : Str) | ty (n : String) | tup (xs : List PV) | lst (xs : List PV) | dic (kvs : List (Key × PV)) | ins (C : Addr) (fs : List (Str × PV))
inductive Cell where
  | fr (p : PV) | ow (p : PV) | ab (R : Gp → T → Prop)
inductive RV where
  | v (c : Cell) | sl (i : Nat)
abbrev SV := Nat → Option Cell
def vset (σ : SV) (j : Nat) (c : Option Cell) : SV := fun i => if i = j then c else σ i
theorem vset_ap {σ : SV} {j i : Nat} {c : Option Cell} : vset σ j c i = if i = j then c else σ i := rfl
def dicAt (F : Gp) (a : Addr) : Option (List (T × T)) := match F a with
  | some (.dic kvs) => some kvs
  | some (.fdic _ _ kvs) => some kvs
  | _ => none
mutual
inductive Rp (F : Gp) : T → PV → Prop
  | non : Rp F .non .non
  | bl (b : Bool) : Rp F (.bl b) (.bl b)
  | int (i : Int) : Rp F (.int i) (.int i)
  | str (x : Str) : Rp F (.str x) (.str x)
  | ty (n : String) : Rp F (.ty n) (.ty n)
  | tup {ts : List T} {ps : List PV} : RpL F ts ps → Rp F (.tup ts) (.tup ps)
  | lst {a : Addr} {ts : List T} {ps : List PV} : F a = some (.lst ts) → RpL F ts ps → Rp F (.ref a) (.lst ps)
  | dic {a : Addr} {ts : List (T × T)} {ps : List (Key × PV)} : dicAt F a = some ts → RpD F ts ps → Rp F (.ref a) (.dic ps)
  | ins {a C : Addr} {ts : List (Str × T)} {ps : List (Str × PV)} : F a = some (.ins C ts) → RpF F ts ps → Rp F (.ref a) (.ins C ps)
inductive RpL (F : Gp) : List T → List PV → Prop
  | nil : RpL F [] []
  | cons {t : T} {p : PV} {ts : List T} {ps : List PV} : Rp F t p → RpL F ts ps → RpL F (t :: ts) (p :: ps)
inductive RpD (F : Gp) : List (T × T) → List (Key × PV) → Prop
  | nil : RpD F [] []
  | cons {k : Key} {t : T} {p : PV} {ts : List (T × T)} {ps : List (Key × PV)} : Rp F t p → RpD F ts ps → RpD F ((kT k, t) :: ts) ((k, p) :: ps)
inductive RpF (F : Gp) : List (Str × T) → List (Str × PV) → Prop
  | nil : RpF F [] []
  | cons {k : Str} {t : T} {p : PV} {ts : List (Str × T)} {ps : List (Str × PV)} : Rp F t p → RpF F ts ps → RpF F ((k, t) :: ts) ((k, p) :: ps)
end
structure Le (F F' : Gp) : Prop where
  lst : ∀ a ts, F a = some (.lst ts) → F' a = some (.lst ts)
  dic : ∀ a ts, dicAt F a = some ts → dicAt F' a = some ts
  ins : ∀ a C ts, F a = some (.ins C ts) → F' a = some (.ins C ts)
theorem Le.of {F F' : Gp} (s : Sub F F') : Le F F' := by
  refine ⟨fun a ts h => s _ _ h, fun a ts h => ?_, fun a C ts h => s _ _ h⟩
  unfold dicAt at h ⊢
  split at h
  · rename_i e; rw [s _ _ e]; exact h
  · rename_i e; rw [s _ _ e]; exact h
  · cases h
mutual
theorem Rp.mono {F F' : Gp} (l : Le F F') : ∀ {t : T} {p : PV}, Rp F t p → Rp F' t p
  | _, _, .non => .non
  | _, _, .bl _ => .bl _
  | _, _, .int _ => .int _
  | _, _, .str _ => .str _
  | _, _, .ty _ => .ty _
  | _, _, .tup r => .tup (RpL.mono l r)
  | _, _, .lst h r => .lst (l.lst _ _ h) (RpL.mono l r)
  | _, _, .dic h r => .dic (l.dic _ _ h) (RpD.mono l r)
  | _, _, .ins h r => .ins (l.ins _ _ _ h) (RpF.mono l r)
theorem RpL.mono {F F' : Gp} (l : Le F F') : ∀ {t : List T} {p : List PV}, RpL F t p → RpL F' t p
  | _, _, .nil => .nil
  | _, _, .cons r s => .cons (Rp.mono l r) (RpL.mono l s)
theorem RpD.mono {F F' : Gp} (l : Le F F') : ∀ {t : List (T × T)} {p : List (Key × PV)}, RpD F t p → RpD F' t p
  | _, _, .nil => .nil
  | _, _, .cons r s => .cons (Rp.mono l r) (RpD.mono l s)
theorem RpF.mono {F F' : Gp} (l : Le F F') : ∀ {t : List (Str × T)} {p : List (Str × PV)}, RpF F t p → RpF F' t p
  | _, _, .nil => .nil
  | _, _, .cons r s => .cons (Rp.mono l r) (RpF.mono l s)
end
theorem Rp.sub {F F' : Gp} {t : T} {p : PV} (r : Rp F t p) (s : Sub F F') : Rp F' t p := r.mono (.of s)
theorem RpL.sub {F F' : Gp} {t : List T} {p : List PV} (r : RpL F t p) (s : Sub F F') : RpL F' t p := r.mono (.of s)
theorem RpD.sub {F F' : Gp} {t : List (T × T)} {p : List (Key × PV)} (r : RpD F t p) (s : Sub F F') : RpD F' t p := r.mono (.of s)
theorem RpF.sub {F F' : Gp} {t : List (Str × T)} {p : List (Str × PV)} (r : RpF F t p) (s : Sub F F') : RpF F' t p := r.mono (.of s)
theorem RpL.length {F : Gp} : ∀ {ts : List T} {ps : List PV}, RpL F ts ps → ts.length = ps.length
  | _, _, .nil => rfl
  | _, _, .cons _ r => by simp [RpL.length r]
theorem RpD.length {F : Gp} : ∀ {ts : List (T × T)} {ps : List (Key × PV)}, RpD F ts ps → ts.length = ps.length
  | _, _, .nil => rfl
  | _, _, .cons _ r => by simp [RpD.length r]
theorem RpF.length {F : Gp} : ∀ {ts : List (Str × T)} {ps : List (Str × PV)}, RpF F ts ps → ts.length = ps.length
  | _, _, .nil => rfl
  | _, _, .cons _ r => by simp [RpF.length r]
theorem RpL.app {F : Gp} : ∀ {ts us : List T} {ps qs : List PV}, RpL F ts ps → RpL F us qs → RpL F (ts ++ us) (ps ++ qs)
  | _, _, _, _, .nil, s => s
  | _, _, _, _, .cons r t, s => .cons r (RpL.app t s)
theorem RpL.drop {F : Gp} : ∀ {ts : List T} {ps : List PV} (n : Nat), RpL F ts ps → RpL F (ts.drop n) (ps.drop n)
  | _, _, 0, r => r
  | _, _, _ + 1, .nil => .nil
  | _, _, n + 1, .cons _ r => RpL.drop n r
theorem RpL.take {F : Gp} : ∀ {ts : List T} {ps : List PV} (n : Nat), RpL F ts ps → RpL F (ts.take n) (ps.take n)
  | _, _, 0, _ => .nil
  | _, _, _ + 1, .nil => .nil
  | _, _, n + 1, .cons h r => .cons h (RpL.take n r)
theorem RpL.rev {F : Gp} : ∀ {ts : List T} {ps : List PV}, RpL F ts ps → RpL F ts.reverse ps.reverse
  | _, _, .nil => .nil
  | _, _, .cons q r => by
    rw [List.reverse_cons, List.reverse_cons]
    exact (RpL.rev r).app (.cons q .nil)
theorem RpL.erase {F : Gp} : ∀ {ts : List T} {ps : List PV} (n : Nat), RpL F ts ps → RpL F (ts.eraseIdx n) (ps.eraseIdx n)
  | _, _, _, .nil => .nil
  | _, _, 0, .cons _ r => r
  | _, _, n + 1, .cons q r => .cons q (RpL.erase n r)
theorem RpL.set {F : Gp} {t : T} {p : PV} (h : Rp F t p) : ∀ {ts : List T} {ps : List PV} (n : Nat), RpL F ts ps → RpL F (ts.set n t) (ps.set n p)
  | _, _, _, .nil => .nil
  | _, _, 0, .cons _ r => .cons h r
  | _, _, n + 1, .cons q r => .cons q (RpL.set h n r)
theorem RpL.get {F : Gp} : ∀ {ts : List T} {ps : List PV} {i : Nat} {p : PV}, RpL F ts ps → ps[i]? = some p → ∃ t, ts[i]? = some t ∧ Rp F t p
  | _, _, i, p, .nil, e => by simp at e
  | _, _, 0, p, .cons r _, e => by simp at e; subst e; exact ⟨_, by simp, r⟩
  | _, _, i + 1, p, .cons _ r, e => by
    obtain ⟨t, h1, h2⟩ := RpL.get (i := i) (p := p) r (by simpa using e)
    exact ⟨t, by simpa using h1, h2⟩
theorem RpL.getT {F : Gp} : ∀ {ts : List T} {ps : List PV} {i : Nat} {t : T}, RpL F ts ps → ts[i]? = some t → ∃ p, ps[i]? = some p ∧ Rp F t p
  | _, _, i, p, .nil, e => by simp at e
  | _, _, 0, p, .cons r _, e => by simp at e; subst e; exact ⟨_, by simp, r⟩
  | _, _, i + 1, p, .cons _ r, e => by
    obtain ⟨t, h1, h2⟩ := RpL.getT (i := i) (t := p) r (by simpa using e)
    exact ⟨t, by simpa using h1, h2⟩
theorem RpL.rep {F : Gp} {ts : List T} {ps : List PV} (r : RpL F ts ps) : ∀ n, RpL F (List.replicate n ts).flatten (List.replicate n ps).flatten
  | 0 => .nil
  | n + 1 => by
    rw [List.replicate_succ, List.replicate_succ, List.flatten_cons, List.flatten_cons]
    exact r.app (RpL.rep r n)
/-! dicts -/
def dgetP : List (Key × PV) → Key → Option PV
  | [], _ => none
  | (j, p) :: r, k => if j = k then some p else dgetP r k
def dputP (kvs : List (Key × PV)) (k : Key) (v : PV) : List (Key × PV) :=
  if (kvs.any fun kv => decide (kv.1 = k)) = true then kvs.map (fun kv => if kv.1 = k then (kv.1, v) else kv) else kvs ++ [(k, v)]
theorem RpD.look {F : Gp} {k : Key} : ∀ {ts : List (T × T)} {ps : List (Key × PV)}, RpD F ts ps → (dlook ts (kT k) = none ∧ dgetP ps k = none) ∨ ∃ t p, dlook ts (kT k) = some t ∧ dgetP ps k = some p ∧ Rp F t p
  | _, _, .nil => .inl ⟨rfl, rfl⟩
  | _, _, .cons (k := j) (p := v) (t := t) (ts := r) (ps := u) h rs => by
    by_cases e : j = k
    · subst e
      exact .inr ⟨t, v, by simp [dlook], by simp [dgetP], h⟩
    · have e' : ¬ kT j = kT k := fun z => e (kT_inj z)
      rcases RpD.look (k := k) rs with ⟨h1, h2⟩ | ⟨t', v', h1, h2, h3⟩
      · exact .inl ⟨by simp [dlook, e', h1], by simpa [dgetP, e] using h2⟩
      · exact .inr ⟨t', v', by simp [dlook, e', h1], by simpa [dgetP, e] using h2, h3⟩
theorem RpD.any {F : Gp} (k : Key) : ∀ {ts : List (T × T)} {ps : List (Key × PV)}, RpD F ts ps → (ts.any fun kv => decide (kv.1 = kT k)) = (ps.any fun kv => decide (kv.1 = k))
  | _, _, .nil => rfl
  | _, _, .cons (k := j) _ r => by
    rw [List.any_cons, List.any_cons, RpD.any k r]
    congr 1
    by_cases e : j = k
    · subst e; simp
    · have e' : ¬ kT j = kT k := fun z => e (kT_inj z)
      simp [e, e']
theorem RpD.mapPut {F : Gp} (k : Key) {t : T} {p : PV} (h : Rp F t p) : ∀ {ts : List (T × T)} {ps : List (Key × PV)}, RpD F ts ps →
    RpD F (ts.map fun kv => if kv.1 = kT k then (kv.1, t) else kv) (ps.map fun kv => if kv.1 = k then (kv.1, p) else kv)
  | _, _, .nil => .nil
  | _, _, .cons (k := j) hr r => by
    rw [List.map_cons, List.map_cons]
    by_cases e : j = k
    · subst e
      rw [if_pos rfl, if_pos rfl]
      exact .cons h (RpD.mapPut _ h r)
    · have e' : ¬ kT j = kT k := fun z => e (kT_inj z)
      rw [if_neg e, if_neg e']
      exact .cons hr (RpD.mapPut _ h r)
theorem RpD.app {F : Gp} : ∀ {ts us : List (T × T)} {ps qs : List (Key × PV)}, RpD F ts ps → RpD F us qs → RpD F (ts ++ us) (ps ++ qs)
  | _, _, _, _, .nil, s => s
  | _, _, _, _, .cons r t, s => .cons r (RpD.app t s)
theorem RpD.put {F : Gp} {k : Key} {t : T} {p : PV} {ts : List (T × T)} {ps : List (Key × PV)} (r : RpD F ts ps) (h : Rp F t p) : RpD F (dput ts (kT k) t) (dputP ps k p) := by
  unfold dput dputP
  rw [r.any k]
  split
  · exact r.mapPut k h
  · exact r.app (.cons h .nil)
theorem RpD.keys {F : Gp} : ∀ {ts : List (T × T)} {ps : List (Key × PV)}, RpD F ts ps → ts.map (·.1) = ps.map fun kv => kT kv.1
  | _, _, .nil => rfl
  | _, _, .cons _ r => by simp [RpD.keys r]
def kP : Key → PV
  | .inl i => .int i
  | .inr x => .str x
def keyP : PV → Option Key
  | .int i => some (.inl i)
  | .str s => some (.inr s)
  | _ => none
theorem kP_rp {F : Gp} : ∀ k : Key, Rp F (kT k) (kP k)
  | .inl i => .int i
  | .inr x => .str x
theorem keyP_T {F : Gp} {t : T} {p : PV} {k : Key} (r : Rp F t p) (h : keyP p = some k) : t = kT k ∧ keyT t = some k := by
  cases p <;> simp only [keyP, reduceCtorEq, Option.some.injEq] at h <;> subst h <;> cases r <;> exact ⟨rfl, rfl⟩
theorem RpD.keysL {F : Gp} : ∀ {ts : List (T × T)} {ps : List (Key × PV)}, RpD F ts ps → RpL F (ts.map (·.1)) (ps.map fun kv => kP kv.1)
  | _, _, .nil => .nil
  | _, _, .cons (k := k) _ r => .cons (kP_rp k) (RpD.keysL r)
theorem RpF.look {F : Gp} {f : Str} : ∀ {ts : List (Str × T)} {ps : List (Str × PV)}, RpF F ts ps → (ts.lookup f = none ∧ ps.lookup f = none) ∨ ∃ t p, ts.lookup f = some t ∧ ps.lookup f = some p ∧ Rp F t p
  | _, _, .nil => .inl ⟨rfl, rfl⟩
  | _, _, .cons (k := j) (p := v) (t := t) (ts := r) (ps := u) h rs => by
    by_cases e : f = j
    · subst e
      exact .inr ⟨t, v, by simp, by simp, h⟩
    · have e' : (f == j) = false := beq_eq_false_iff_ne.mpr e
      rcases RpF.look (f := f) rs with ⟨h1, h2⟩ | ⟨t', v', h1, h2, h3⟩
      · exact .inl ⟨by rw [List.lookup_cons, e']; exact h1, by rw [List.lookup_cons, e']; exact h2⟩
      · exact .inr ⟨t', v', by rw [List.lookup_cons, e']; exact h1, by rw [List.lookup_cons, e']; exact h2, h3⟩
/-! ### what is owned -/
def nil0 : Gp := fun _ => none
def one (a : Addr) (o : O) : Gp := fun b => if b = a then some o else none
theorem one_same {a : Addr} {o : O} : one a o a = some o := by unfold one; simp
theorem one_at {a b : Addr} {o u : O} (h : one a o b = some u) : b = a ∧ u = o := by
  unfold one at h
  split at h
  · exact ⟨by assumption, (Option.some.inj h).symm⟩
  · cases h
theorem one_ne {a b : Addr} {o : O} (h : one a o b ≠ none) : b = a := by
  unfold one at h
  split at h
  · assumption
  · exact absurd rfl h
def Ow (F H : Gp) (t : T) : PV → Prop
  | .lst ps => ∃ a ts, t = .ref a ∧ H = one a (.lst ts) ∧ RpL F ts ps
  | .dic ps => ∃ a ts, t = .ref a ∧ H = one a (.dic ts) ∧ RpD F ts ps
  | .ins C ps => ∃ a ts, t = .ref a ∧ H = one a (.ins C ts) ∧ RpF F ts ps
  | _ => False
theorem Ow.sub {F F' H : Gp} {t : T} {p : PV} (r : Ow F H t p) (s : Sub F F') : Ow F' H t p := by
  cases p with
  | lst ps => obtain ⟨a, ts, h1, h2, h3⟩ := r; exact ⟨a, ts, h1, h2, h3.sub s⟩
  | dic ps => obtain ⟨a, ts, h1, h2, h3⟩ := r; exact ⟨a, ts, h1, h2, h3.sub s⟩
  | ins C ps => obtain ⟨a, ts, h1, h2, h3⟩ := r; exact ⟨a, ts, h1, h2, h3.sub s⟩
  | _ => exact r.elim
def uni (F H : Gp) : Gp := fun a => match F a with
  | some o => some o
  | none => H a
theorem sub_uni {F H : Gp} : Sub F (uni F H) := fun a o h => by unfold uni; rw [h]
theorem uni_at {F H : Gp} {a : Addr} (h : H a ≠ none → F a = none) {o : O} (e : H a = some o) : uni F H a = some o := by
  unfold uni; rw [h (by rw [e]; simp)]; exact e
theorem uni_or {F H : Gp} {a : Addr} {o : O} (h : uni F H a = some o) : F a = some o ∨ H a = some o := by
  unfold uni at h
  split at h
  · rename_i e; rw [e]; exact .inl h
  · exact .inr h
theorem uni_ne {F H : Gp} {a : Addr} (h : uni F H a ≠ none) : F a ≠ none ∨ H a ≠ none := by
  unfold uni at h
  split at h
  · rename_i e; rw [e]; exact .inl h
  · exact .inr h
theorem Ow.frz {F H : Gp} {t : T} {p : PV} (r : Ow F H t p) (d : ∀ a, H a ≠ none → F a = none) : Rp (uni F H) t p := by
  cases p with
  | lst ps => obtain ⟨a, ts, rfl, rfl, h3⟩ := r; exact .lst (uni_at (d a) one_same) (h3.sub sub_uni)
  | dic ps => obtain ⟨a, ts, rfl, rfl, h3⟩ := r; exact .dic (by unfold dicAt; rw [uni_at (d a) one_same]) (h3.sub sub_uni)
  | ins C ps => obtain ⟨a, ts, rfl, rfl, h3⟩ := r; exact .ins (uni_at (d a) one_same) (h3.sub sub_uni)
  | _ => exact r.elim
def CellR (F H : Gp) (t : T) : Cell → Prop
  | .fr p => Rp F t p
  | .ow p => Ow F H t p
  | .ab R => R H t
theorem CellR.sub {F F' H : Gp} {t : T} {c : Cell} (r : CellR F H t c) (s : Sub F F') : CellR F' H t c := by
  cases c with
  | fr p => exact Rp.sub r s
  | ow p => exact Ow.sub r s
  | ab R => exact r
/-! ### the state -/
structure Fx where
  N : Nat
  io : List Nat
  S0 : S2
  Fr : Gp
structure VRel (fx : Fx) (F : Gp) (own : Nat → Gp) (S : S2) (G : Gp) (σ : SV) : Prop where
  len : S.length = fx.N
  pin : ∀ i ∈ fx.io, S[i]? = fx.S0[i]?
  sub : Sub F G
  frs : Sub fx.Fr G
  frF : ∀ a, F a ≠ none → fx.Fr a = none
  owG : ∀ i, Sub (own i) G
  owF : ∀ i a, own i a ≠ none → F a = none ∧ fx.Fr a = none
  dis : ∀ i j a, i ≠ j → own i a ≠ none → own j a = none
  cell : ∀ i c, σ i = some c → ∃ t, S[i]? = some (some t) ∧ CellR F (own i) t c
structure Tmp (fx : Fx) (F : Gp) (own : Nat → Gp) (G H : Gp) : Prop where
  sub : Sub H G
  dF : ∀ a, H a ≠ none → F a = none ∧ fx.Fr a = none
  dO : ∀ a i, H a ≠ none → own i a = none
structure Ext (F F' : Gp) : Prop where
  sub : Sub F F'
theorem Ext.refl {F : Gp} : Ext F F := ⟨Sub.refl F⟩
theorem Ext.trans {F F1 F2 : Gp} (a : Ext F F1) (b : Ext F1 F2) : Ext F F2 := ⟨a.sub.trans b.sub⟩
def oset (own : Nat → Gp) (j : Nat) (H : Gp) : Nat → Gp := fun i => if i = j then H else own i
theorem oset_same {own : Nat → Gp} {j : Nat} {H : Gp} : oset own j H j = H := by unfold oset; simp
theorem oset_ne {own : Nat → Gp} {j i : Nat} {H : Gp} (h : i ≠ j) : oset own j H i = own i := by unfold oset; simp [h]
theorem Tmp.nil {fx : Fx} {F : Gp} {own : Nat → Gp} {G : Gp} : Tmp fx F own G nil0 := ⟨fun a o h => (by cases h), fun a h => absurd rfl h, fun a i h => absurd rfl h⟩
section
variable {fx : Fx} {F G : Gp} {own : Nat → Gp} {S : S2} {σ : SV}
theorem VRel.lt (g : VRel fx F own S G σ) {i : Nat} {c : Cell} (h : σ i = some c) : i < fx.N := by
  obtain ⟨t, e, _⟩ := g.cell i c h
  rw [← g.len]
  rcases Nat.lt_or_ge i S.length with h | h
  · exact h
  · rw [List.getElem?_eq_none h] at e; cases e
/-- less is known -/
theorem VRel.less (g : VRel fx F own S G σ) {σ' : SV} (h : ∀ i c, σ' i = some c → σ i = some c) : VRel fx F own S G σ' :=
  ⟨g.len, g.pin, g.sub, g.frs, g.frF, g.owG, g.owF, g.dis, fun i c e => g.cell i c (h i c e)⟩
/-- a thing made for now is frozen -/
theorem VRel.frzT (g : VRel fx F own S G σ) {H : Gp} (m : Tmp fx F own G H) : VRel fx (uni F H) own S G σ ∧ Ext F (uni F H) := by
  refine ⟨⟨g.len, g.pin, fun a o e => ?_, g.frs, fun a e => ?_, g.owG, fun i a e => ?_, g.dis, fun i c e => ?_⟩, ⟨sub_uni⟩⟩
  · rcases uni_or e with e | e
    · exact g.sub _ _ e
    · exact m.sub _ _ e
  · rcases uni_ne e with e | e
    · exact g.frF a e
    · exact (m.dF a e).2
  · refine ⟨?_, (g.owF i a e).2⟩
    cases z : uni F H a with
    | none => rfl
    | some o =>
      rcases uni_or z with z | z
      · rw [(g.owF i a e).1] at z; cases z
      · exact absurd (m.dO a i (by rw [z]; simp)) e
  · obtain ⟨t, h1, h2⟩ := g.cell i c e
    exact ⟨t, h1, h2.sub sub_uni⟩
/-- what a name owns is frozen -/
theorem VRel.frz (g : VRel fx F own S G σ) {i : Nat} {p : PV} (h : σ i = some (.ow p)) :
    ∃ F' own', VRel fx F' own' S G (vset σ i (some (.fr p))) ∧ Ext F F' ∧ ∀ t, S[i]? = some (some t) → Rp F' t p := by
  have hd : ∀ a, own i a ≠ none → F a = none := fun a e => (g.owF i a e).1
  obtain ⟨t, h1, h2⟩ := g.cell i _ h
  have hr := Ow.frz h2 hd
  refine ⟨uni F (own i), oset own i nil0, ⟨g.len, g.pin, fun a o e => ?_, g.frs, fun a e => ?_, fun j a o e => ?_, fun j a e => ?_, fun j k a hjk e => ?_, fun j c e => ?_⟩, ⟨sub_uni⟩, fun t' e => ?_⟩
  · rcases uni_or e with e | e
    · exact g.sub _ _ e
    · exact g.owG i _ _ e
  · rcases uni_ne e with e | e
    · exact g.frF a e
    · exact (g.owF i a e).2
  · by_cases z : j = i
    · subst z; rw [oset_same] at e; cases e
    · rw [oset_ne z] at e; exact g.owG j _ _ e
  · by_cases z : j = i
    · subst z; rw [oset_same] at e; exact absurd rfl e
    · rw [oset_ne z] at e
      refine ⟨?_, (g.owF j a e).2⟩
      cases y : uni F (own i) a with
      | none => rfl
      | some o =>
        rcases uni_or y with y | y
        · rw [(g.owF j a e).1] at y; cases y
        · rw [g.dis j i a z e] at y; cases y
  · by_cases z : j = i
    · subst z; rw [oset_same] at e; exact absurd rfl e
    · rw [oset_ne z] at e
      by_cases y : k = i
      · subst y; rw [oset_same]; rfl
      · rw [oset_ne y]; exact g.dis j k a hjk e
  · by_cases z : j = i
    · subst z
      rw [vset_ap, if_pos rfl] at e
      cases e
      exact ⟨t, h1, hr⟩
    · rw [vset_ap, if_neg z] at e
      obtain ⟨u, e1, e2⟩ := g.cell j c e
      rw [oset_ne z]
      exact ⟨u, e1, e2.sub sub_uni⟩
  · rw [h1] at e
    cases e
    exact hr
/-- a name gets a value -/
theorem VRel.put (g : VRel fx F own S G σ) {H : Gp} (m : Tmp fx F own G H) {j : Nat} {t : T} {c : Cell} (hj : j < fx.N) (hio : j ∉ fx.io) (r : CellR F H t c) :
    VRel fx F (oset own j H) (S.set j (some t)) G (vset σ j (some c)) := by
  refine ⟨by rw [List.length_set]; exact g.len, fun i hi => ?_, g.sub, g.frs, g.frF, fun i a o e => ?_, fun i a e => ?_, fun i k a hik e => ?_, fun i d e => ?_⟩
  · rw [List.getElem?_set_ne (fun z => hio (by rw [z]; exact hi))]; exact g.pin i hi
  · by_cases z : i = j
    · subst z; rw [oset_same] at e; exact m.sub _ _ e
    · rw [oset_ne z] at e; exact g.owG i _ _ e
  · by_cases z : i = j
    · subst z; rw [oset_same] at e; exact m.dF a e
    · rw [oset_ne z] at e; exact g.owF i a e
  · by_cases z : i = j
    · subst z
      rw [oset_same] at e
      rw [oset_ne (fun y => hik y.symm)]
      exact m.dO a k e
    · rw [oset_ne z] at e
      by_cases y : k = j
      · subst y
        rw [oset_same]
        cases q : H a with
        | none => rfl
        | some o => exact absurd (m.dO a i (by rw [q]; simp)) e
      · rw [oset_ne y]; exact g.dis i k a hik e
  · by_cases z : i = j
    · subst z
      rw [vset_ap, if_pos rfl] at e
      cases e
      rw [oset_same]
      exact ⟨t, List.getElem?_set_self (by rw [g.len]; exact hj), r⟩
    · rw [vset_ap, if_neg z] at e
      rw [oset_ne z, List.getElem?_set_ne (fun y => z y.symm)]
      exact g.cell i d e
/-- a name is forgotten -/
theorem VRel.del (g : VRel fx F own S G σ) {j : Nat} (hio : j ∉ fx.io) : VRel fx F own (S.set j none) G (vset σ j none) := by
  refine ⟨by rw [List.length_set]; exact g.len, fun i hi => ?_, g.sub, g.frs, g.frF, g.owG, g.owF, g.dis, fun i d e => ?_⟩
  · rw [List.getElem?_set_ne (fun z => hio (by rw [z]; exact hi))]; exact g.pin i hi
  · by_cases z : i = j
    · subst z; rw [vset_ap, if_pos rfl] at e; cases e
    · rw [vset_ap, if_neg z] at e
      rw [List.getElem?_set_ne (fun y => z y.symm)]
      exact g.cell i d e
/-- what a name owns is changed -/
theorem VRel.mut (g : VRel fx F own S G σ) {i : Nat} {a : Addr} {o o' : O} {c : Cell} (h : own i = one a o) (r : ∃ t, S[i]? = some (some t) ∧ CellR F (one a o') t c) :
    ∃ own', VRel fx F own' S (gup G a o') (vset σ i (some c)) ∧ Ext F F := by
  have hlt : i < fx.N := by
    obtain ⟨t, e, _⟩ := r
    rw [← g.len]
    rcases Nat.lt_or_ge i S.length with h | h
    · exact h
    · rw [List.getElem?_eq_none h] at e; cases e
  have hi : own i a ≠ none := by rw [h, one_same]; simp
  have ha := g.owF i a hi
  have up : ∀ {M : Gp}, M a = none → Sub M G → Sub M (gup G a o') := fun hm s b u e => by
    rw [gup_ne (fun z => by rw [z, hm] at e; cases e)]
    exact s b u e
  refine ⟨oset own i (one a o'), ⟨g.len, g.pin, up ha.1 g.sub, up ha.2 g.frs, g.frF, fun j => ?_, fun j b e => ?_, fun j k b hjk e => ?_, fun j d e => ?_⟩, ⟨Sub.refl F⟩⟩
  · by_cases z : j = i
    · subst z
      rw [oset_same]
      intro b u e
      obtain ⟨rfl, rfl⟩ := one_at e
      exact gup_same
    · rw [oset_ne z]; exact up (g.dis i j a (fun y => z y.symm) hi) (g.owG j)
  · by_cases z : j = i
    · subst z
      rw [oset_same] at e
      have := one_ne e
      subst this
      exact ha
    · rw [oset_ne z] at e; exact g.owF j b e
  · by_cases z : j = i
    · subst z
      rw [oset_same] at e
      have := one_ne e
      subst this
      rw [oset_ne (fun y => hjk y.symm)]
      exact g.dis j k b hjk hi
    · rw [oset_ne z] at e
      by_cases y : k = i
      · subst y
        rw [oset_same]
        cases q : one a o' b with
        | none => rfl
        | some u =>
          obtain ⟨rfl, _⟩ := one_at q
          rw [g.dis k j b (fun y => z y.symm) hi] at e
          exact absurd rfl e
      · rw [oset_ne y]; exact g.dis j k b hjk e
  · by_cases z : j = i
    · subst z
      rw [vset_ap, if_pos rfl] at e
      cases e
      rw [oset_same]
      exact r
    · rw [vset_ap, if_neg z] at e
      rw [oset_ne z]
      exact g.cell j d e
/-- a thing made for now stands aside -/
theorem VRel.hold (g : VRel fx F own S G σ) {H : Gp} (m : Tmp fx F own G H) : VRel { fx with Fr := uni fx.Fr H } F own S G σ := by
  refine ⟨g.len, g.pin, g.sub, fun a o e => ?_, fun a e => ?_, g.owG, fun i a e => ⟨(g.owF i a e).1, ?_⟩, g.dis, g.cell⟩
  · rcases uni_or e with e | e
    · exact g.frs _ _ e
    · exact m.sub _ _ e
  · cases z : uni fx.Fr H a with
    | none => exact z
    | some o =>
      rcases uni_or z with z | z
      · rw [g.frF a e] at z; cases z
      · exact absurd (m.dF a (by rw [z]; simp)).1 e
  · cases z : uni fx.Fr H a with
    | none => exact z
    | some o =>
      rcases uni_or z with z | z
      · rw [(g.owF i a e).2] at z; cases z
      · exact absurd (m.dO a i (by rw [z]; simp)) e
theorem VRel.unhold {H : Gp} (g : VRel { fx with Fr := uni fx.Fr H } F own S G σ) (d : ∀ a, H a ≠ none → fx.Fr a = none) : VRel fx F own S G σ ∧ Tmp fx F own G H := by
  have hU : ∀ a o, H a = some o → uni fx.Fr H a = some o := fun a o e => uni_at (d a) e
  have no : ∀ a, uni fx.Fr H a = none → fx.Fr a = none := fun a e => by
    cases z : fx.Fr a with
    | none => rfl
    | some o => rw [sub_uni _ _ z] at e; cases e
  refine ⟨⟨g.len, g.pin, g.sub, sub_uni.trans g.frs, fun a e => no a (g.frF a e), g.owG, fun i a e => ⟨(g.owF i a e).1, no a (g.owF i a e).2⟩, g.dis, g.cell⟩, ⟨fun a o e => g.frs _ _ (hU a o e), fun a e => ⟨?_, d a e⟩, fun a i e => ?_⟩⟩
  · obtain ⟨o, z⟩ := Option.ne_none_iff_exists'.mp e
    cases y : F a with
    | none => rfl
    | some u => have := g.frF a (by rw [y]; simp); rw [show ({ fx with Fr := uni fx.Fr H } : Fx).Fr a = uni fx.Fr H a from rfl, hU a o z] at this; cases this
  · obtain ⟨o, z⟩ := Option.ne_none_iff_exists'.mp e
    cases y : own i a with
    | none => rfl
    | some u => have := (g.owF i a (by rw [y]; simp)).2; rw [show ({ fx with Fr := uni fx.Fr H } : Fx).Fr a = uni fx.Fr H a from rfl, hU a o z] at this; cases this
/-- something is laid -/
structure Fresh (G H G' : Gp) : Prop where
  or : (G' = G ∧ H = nil0) ∨ ∃ a o, G a = none ∧ G' = gup G a o ∧ H = one a o
theorem Fresh.no : Fresh G nil0 G := ⟨.inl ⟨rfl, rfl⟩⟩
theorem Fresh.new {a : Addr} {o : O} (h : G a = none) : Fresh G (one a o) (gup G a o) := ⟨.inr ⟨a, o, h, rfl, rfl⟩⟩
theorem VRel.fresh (g : VRel fx F own S G σ) {H G' : Gp} (f : Fresh G H G') : VRel fx F own S G' σ ∧ Tmp fx F own G' H := by
  rcases f.or with ⟨rfl, rfl⟩ | ⟨a, o, h, rfl, rfl⟩
  · exact ⟨g, Tmp.nil⟩
  · have no : ∀ {M : Gp}, Sub M G → M a = none := fun {M} s => by
      cases e : M a with
      | none => rfl
      | some u => have := s _ _ e; rw [h] at this; cases this
    refine ⟨⟨g.len, g.pin, g.sub.trans (Sub.gup h), g.frs.trans (Sub.gup h), g.frF, fun i => (g.owG i).trans (Sub.gup h), g.owF, g.dis, g.cell⟩, ⟨fun b u e => ?_, fun b e => ?_, fun b i e => ?_⟩⟩
    · obtain ⟨rfl, rfl⟩ := one_at e; exact gup_same
    · have := one_ne e; subst this; exact ⟨no g.sub, no g.frs⟩
    · have := one_ne e; subst this; exact no (g.owG i)
end
/-! ### values read -/
def RdR (F G : Gp) (t : T) : PV → Prop
  | .non => t = .non
  | .bl b => t = .bl b
  | .int i => t = .int i
  | .str x => t = .str x
  | .ty n => t = .ty n
  | .tup ps => ∃ ts, t = .tup ts ∧ RpL F ts ps
  | .lst ps => ∃ a ts, t = .ref a ∧ G a = some (.lst ts) ∧ RpL F ts ps
  | .dic ps => ∃ a ts, t = .ref a ∧ dicAt G a = some ts ∧ RpD F ts ps
  | .ins C ps => ∃ a ts, t = .ref a ∧ G a = some (.ins C ts) ∧ RpF F ts ps
theorem Rp.rd {F G : Gp} {t : T} {p : PV} (r : Rp F t p) (s : Sub F G) : RdR F G t p := by
  cases r with
  | non => exact rfl
  | bl b => exact rfl
  | int i => exact rfl
  | str x => exact rfl
  | ty n => exact rfl
  | tup r => exact ⟨_, rfl, r⟩
  | lst h r => exact ⟨_, _, rfl, s _ _ h, r⟩
  | dic h r => exact ⟨_, _, rfl, (Le.of s).dic _ _ h, r⟩
  | ins h r => exact ⟨_, _, rfl, s _ _ h, r⟩
theorem Ow.rd {F H G : Gp} {t : T} {p : PV} (r : Ow F H t p) (s : Sub H G) : RdR F G t p := by
  cases p with
  | lst ps => obtain ⟨a, ts, rfl, rfl, h3⟩ := r; exact ⟨a, ts, rfl, s _ _ one_same, h3⟩
  | dic ps => obtain ⟨a, ts, rfl, rfl, h3⟩ := r; exact ⟨a, ts, rfl, by unfold dicAt; rw [s _ _ one_same], h3⟩
  | ins C ps => obtain ⟨a, ts, rfl, rfl, h3⟩ := r; exact ⟨a, ts, rfl, s _ _ one_same, h3⟩
  | _ => exact r.elim
theorem RdR.rp {F G : Gp} {t : T} {p : PV} (r : RdR F G t p) (s : Sub F G) : Rp G t p := by
  cases p with
  | non => cases r; exact .non
  | bl b => cases r; exact .bl b
  | int i => cases r; exact .int i
  | str x => cases r; exact .str x
  | ty n => cases r; exact .ty n
  | tup ps => obtain ⟨ts, rfl, h⟩ := r; exact .tup (h.sub s)
  | lst ps => obtain ⟨a, ts, rfl, h, h3⟩ := r; exact .lst h (h3.sub s)
  | dic ps => obtain ⟨a, ts, rfl, h, h3⟩ := r; exact .dic h (h3.sub s)
  | ins C ps => obtain ⟨a, ts, rfl, h, h3⟩ := r; exact .ins h (h3.sub s)
def rd (σ : SV) : RV → Option PV
  | .v (.fr p) => some p
  | .v (.ow p) => some p
  | .v (.ab _) => none
  | .sl i => match σ i with
    | some (.fr p) => some p
    | some (.ow p) => some p
    | _ => none
/-- a value given away -/
def giv (σ : SV) : RV → Option (Cell × SV)
  | .v c => some (c, σ)
  | .sl i => match σ i with
    | some (.fr p) => some (.fr p, σ)
    | some (.ow p) => some (.fr p, vset σ i (some (.fr p)))
    | _ => none
def RvR (fx : Fx) (F : Gp) (own : Nat → Gp) (S : S2) (G : Gp) (t : T) : RV → Prop
  | .v c => ∃ H, CellR F H t c ∧ Tmp fx F own G H
  | .sl i => S[i]? = some (some t)
/-- a value that waits while others are worked out -/
def fz : RV → Option RV
  | .v (.fr p) => some (.v (.fr p))
  | .v (.ow p) => some (.v (.fr p))
  | .v (.ab _) => none
  | .sl i => some (.sl i)
def ArR (F : Gp) (S : S2) (t : T) : RV → Prop
  | .v (.fr p) => Rp F t p
  | .v _ => False
  | .sl i => S[i]? = some (some t)
def ArL (F : Gp) (S : S2) : List T → List RV → Prop
  | [], [] => True
  | t :: ts, r :: rs => ArR F S t r ∧ ArL F S ts rs
  | _, _ => False
theorem ArR.sub {F F' : Gp} {S : S2} {t : T} {r : RV} (h : ArR F S t r) (s : Sub F F') : ArR F' S t r := by
  cases r with
  | v c =>
    cases c with
    | fr p => exact Rp.sub h s
    | _ => exact h.elim
  | sl i => exact h
section
variable {fx : Fx} {F G : Gp} {own : Nat → Gp} {S : S2} {σ : SV} {t : T}
theorem VRel.fz (g : VRel fx F own S G σ) {r r' : RV} (h : RvR fx F own S G t r) (e : fz r = some r') : ∃ F', VRel fx F' own S G σ ∧ Ext F F' ∧ ArR F' S t r' := by
  cases r with
  | v c =>
    obtain ⟨H, h1, h2⟩ := h
    cases c with
    | fr p => cases e; exact ⟨F, g, .refl, h1⟩
    | ow p =>
      cases e
      obtain ⟨g', x⟩ := g.frzT h2
      exact ⟨_, g', x, Ow.frz h1 fun a z => (h2.dF a z).1⟩
    | ab R => cases e
  | sl i => cases e; exact ⟨F, g, .refl, h⟩
theorem VRel.rdA (g : VRel fx F own S G σ) {r : RV} {p : PV} (h : ArR F S t r) (e : rd σ r = some p) : RdR F G t p := by
  cases r with
  | v c =>
    cases c with
    | fr q => cases e; exact Rp.rd h g.sub
    | _ => exact h.elim
  | sl i =>
    have h : S[i]? = some (some t) := h
    simp only [rd] at e
    split at e
    · rename_i q e1
      cases e
      obtain ⟨u, h1, h2⟩ := g.cell i _ e1
      rw [h] at h1
      cases h1
      exact Rp.rd h2 g.sub
    · rename_i q e1
      cases e
      obtain ⟨u, h1, h2⟩ := g.cell i _ e1
      rw [h] at h1
      cases h1
      exact Ow.rd h2 (g.owG i)
    · cases e
theorem VRel.rdV (g : VRel fx F own S G σ) {r : RV} {p : PV} (h : RvR fx F own S G t r) (e : rd σ r = some p) : RdR F G t p := by
  cases r with
  | v c =>
    obtain ⟨H, h1, h2⟩ := h
    cases c with
    | fr q => cases e; exact Rp.rd h1 g.sub
    | ow q => cases e; exact Ow.rd h1 h2.sub
    | ab R => cases e
  | sl i => exact g.rdA (r := .sl i) h e
theorem VRel.giv (g : VRel fx F own S G σ) {r : RV} {c : Cell} {σ' : SV} (h : RvR fx F own S G t r) (e : giv σ r = some (c, σ')) : ∃ F' own' H, VRel fx F' own' S G σ' ∧ Ext F F' ∧ CellR F' H t c ∧ Tmp fx F' own' G H := by
  cases r with
  | v d =>
    obtain ⟨H, h1, h2⟩ := h
    cases e
    exact ⟨F, own, H, g, .refl, h1, h2⟩
  | sl i =>
    have h : S[i]? = some (some t) := h
    simp only [Vl.giv] at e
    split at e
    · rename_i q e1
      cases e
      obtain ⟨u, h1, h2⟩ := g.cell i _ e1
      rw [h] at h1
      cases h1
      exact ⟨F, own, nil0, g, .refl, h2, .nil⟩
    · rename_i q e1
      cases e
      obtain ⟨F', own', g', x, k⟩ := g.frz e1
      exact ⟨F', own', nil0, g', x, k t h, .nil⟩
    · cases e
end
/-- .. and frozen -/
def tk (σ : SV) (r : RV) : Option (PV × SV) := match giv σ r with
  | some (.fr p, σ') => some (p, σ')
  | some (.ow p, σ') => some (p, σ')
  | _ => none
theorem VRel.tk {fx : Fx} {F G : Gp} {own : Nat → Gp} {S : S2} {σ : SV} {t : T} (g : VRel fx F own S G σ) {r : RV} {p : PV} {σ' : SV} (h : RvR fx F own S G t r) (e : tk σ r = some (p, σ')) : ∃ F' own', VRel fx F' own' S G σ' ∧ Ext F F' ∧ Rp F' t p := by
  unfold Vl.tk at e
  split at e
  · rename_i q σ1 e1
    cases e
    obtain ⟨F', own', H, g', x, h1, h2⟩ := g.giv h e1
    exact ⟨F', own', g', x, h1⟩
  · rename_i q σ1 e1
    cases e
    obtain ⟨F', own', H, g', x, h1, h2⟩ := g.giv h e1
    obtain ⟨g2, x2⟩ := g'.frzT h2
    exact ⟨_, own', g2, x.trans x2, Ow.frz h1 fun a z => (h2.dF a z).1⟩
  · cases e
end Vl
namespace Vl
open PySem L2 Dv
noncomputable instance : DecidableEq PV := fun a b => Classical.propDecidable (a = b)
/-! ### judgements over values -/
abbrev VE := SV → (RV → SV → Prop) → Prop
abbrev VT := SV → (Bool → SV → Prop) → Prop
abbrev VA := SV → (List RV → SV → Prop) → Prop
structure Fq where
  S0 : S2
  Fr : Gp
def fxo (N : Nat) (io : List Nat) (w : Fq) : Fx := ⟨N, io, w.S0, w.Fr⟩
def lowV (N : Nat) (io : List Nat) (ve : VE) : LE := fun S G Φ => ∃ w F own σ Ψ, VRel (fxo N io w) F own S G σ ∧ ve σ Ψ ∧ ∀ r σ' F' own' G' t, Ψ r σ' → Ext F F' → VRel (fxo N io w) F' own' S G' σ' → RvR (fxo N io w) F' own' S G' t r → Φ t G'
def lowVT (N : Nat) (io : List Nat) (vt : VT) : LT := fun S G Φ => ∃ w F own σ Ψ, VRel (fxo N io w) F own S G σ ∧ vt σ Ψ ∧ ∀ b σ' F' own' G', Ψ b σ' → Ext F F' → VRel (fxo N io w) F' own' S G' σ' → Φ b G'
def lowVA (N : Nat) (io : List Nat) (va : VA) : LA := fun S G Φ => ∃ w F own σ Ψ, VRel (fxo N io w) F own S G σ ∧ va σ Ψ ∧ ∀ rs σ' F' own' G' ts, Ψ rs σ' → Ext F F' → VRel (fxo N io w) F' own' S G' σ' → ArL F' S ts rs → Φ ts G'
def Ev (en : En) (X : Cx) (io : List Nat) (e : Expr) (ve : VE) : Prop := E en X e (lowV X.N.length io ve)
def Evt (en : En) (X : Cx) (io : List Nat) (e : Expr) (ve : VT) : Prop := Et en X e (lowVT X.N.length io ve)
def Evw (en : En) (X : Cx) (io : List Nat) (e : Expr) (ve : VT) : Prop := Ew en X e (lowVT X.N.length io ve)
def Eva (en : En) (X : Cx) (io : List Nat) (es : List Expr) (ve : VA) : Prop := Ea en X es (lowVA X.N.length io ve)
def Evk (en : En) (X : Cx) (io : List Nat) (es : List Keyword) (ve : VA) : Prop := Ek en X es (lowVA X.N.length io ve)
section
variable {en : En} {X : Cx} {io : List Nat} {a b c e : Expr} {es : List Expr} {va vb vc : VE} {pos : Pos}
theorem weakL {l l' : LE} (h : E en X e l) (w : ∀ S G Φ, l' S G Φ → l S G Φ) : E en X e l' := PE.weak h fun σ H Q ⟨S, G, Φ, s, g, q, k⟩ => ⟨S, G, Φ, s, g, w S G Φ q, k⟩
theorem weakT {l l' : LT} (h : Et en X e l) (w : ∀ S G Φ, l' S G Φ → l S G Φ) : Et en X e l' := PT.weak h fun σ H Q ⟨S, G, Φ, s, g, q, k⟩ => ⟨S, G, Φ, s, g, w S G Φ q, k⟩
theorem weakW {l l' : LT} (h : Ew en X e l) (w : ∀ S G Φ, l' S G Φ → l S G Φ) : Ew en X e l' := PW.weak h fun σ H Q ⟨S, G, Φ, s, g, q, k⟩ => ⟨S, G, Φ, s, g, w S G Φ q, k⟩
theorem weakA {l l' : LA} (h : Ea en X es l) (w : ∀ S G Φ, l' S G Φ → l S G Φ) : Ea en X es l' := PA.weak h fun σ H Q ⟨S, G, Φ, s, g, q, k⟩ => ⟨S, G, Φ, s, g, w S G Φ q, k⟩
theorem weakK {kws : List Keyword} {l l' : LA} (h : Ek en X kws l) (w : ∀ S G Φ, l' S G Φ → l S G Φ) : Ek en X kws l' := PK.weak h fun σ H Q ⟨S, G, Φ, s, g, q, k⟩ => ⟨S, G, Φ, s, g, w S G Φ q, k⟩
/-! names, constants -/
def vVar (i : Nat) : VE := fun σ Ψ => (σ i).isSome = true ∧ Ψ (.sl i) σ
theorem sl_of : ∀ {S : S2} {i : Nat} {t : T}, S[i]? = some (some t) → sl S i = some t
  | [], _, _, h => by simp at h
  | x :: _, 0, t, h => by simp at h; subst h; rfl
  | _ :: r, i + 1, t, h => by simpa [sl] using sl_of (S := r) (i := i) (by simpa using h)
theorem ev_var {i : Nat} (h : E en X e (lVar i)) : Ev en X io e (vVar i) := weakL h fun S G Φ ⟨w, F, own, σ, Ψ, g, ⟨q1, q⟩, k⟩ => by
  obtain ⟨c, hc⟩ := Option.isSome_iff_exists.mp q1
  obtain ⟨t, e1, _⟩ := g.cell i c hc
  unfold lVar
  rw [sl_of e1]
  exact k _ _ _ _ _ _ q .refl g e1
def vC (p : PV) : VE := fun σ Ψ => Ψ (.v (.fr p)) σ
theorem ev_c {t : T} {p : PV} (h : E en X e (lC t)) (r : ∀ F, Rp F t p) : Ev en X io e (vC p) := weakL h fun S G Φ ⟨w, F, own, σ, Ψ, g, q, k⟩ => k _ _ _ _ _ _ q .refl g ⟨nil0, r F, .nil⟩
theorem ev_glob {t : T} {p : PV} (h : E en X e (lGlob t)) (r : ∀ F, Rp F t p) : Ev en X io e (vC p) := ev_c h r
theorem ev_int {i : Int} {j : Nat} : Ev en X io (.Constant (.int i) j pos) (vC (.int i)) := ev_c e_int fun _ => .int _
theorem ev_bl {i : Bool} {j : Nat} : Ev en X io (.Constant (.bool i) j pos) (vC (.bl i)) := ev_c e_bl fun _ => .bl _
theorem ev_non {j : Nat} : Ev en X io (.Constant .none j pos) (vC .non) := ev_c e_non fun _ => .non
theorem ev_str {i : Str} {j : Nat} : Ev en X io (.Constant (.str i) j pos) (vC (.str i)) := ev_c e_str fun _ => .str _
/-! arguments -/
def vNil : VA := fun σ Ψ => Ψ [] σ
def vCons (va : VE) (vr : VA) : VA := fun σ Ψ => va σ fun r σ1 => match fz r with
  | some r' => vr σ1 fun rs σ2 => Ψ (r' :: rs) σ2
  | none => False
theorem ea_lNil {N : Nat} {io : List Nat} : ∀ S G Φ, lowVA N io vNil S G Φ → lNil S G Φ := fun S G Φ ⟨w, F, own, σ, Ψ, g, q, k⟩ => k _ _ _ _ _ _ q .refl g trivial
theorem ea_lCons {N : Nat} {io : List Nat} {vr : VA} : ∀ S G Φ, lowVA N io (vCons va vr) S G Φ → lCons (lowV N io va) (lowVA N io vr) S G Φ := by
  intro S G Φ ⟨w, F, own, σ, Ψ, g, q, k⟩
  refine ⟨w, F, own, σ, _, g, q, fun r σ1 F1 own1 G1 t q1 x1 g1 r1 => ?_⟩
  split at q1
  · rename_i r' e
    obtain ⟨F2, g2, x2, ar⟩ := g1.fz r1 e
    exact ⟨w, F2, own1, σ1, _, g2, q1, fun rs σ2 F3 own3 G3 ts q3 x3 g3 ar3 => k _ _ _ _ _ (t :: ts) q3 ((x1.trans x2).trans x3) g3 ⟨ar.sub x3.sub, ar3⟩⟩
  · exact q1.elim
theorem eva_nil : Eva en X io [] vNil := weakA ea_nil ea_lNil
theorem eva_cons {vr : VA} (h : Ev en X io a va) (hr : Eva en X io es vr) (hs : starEach (a :: es) X.env = (false, eval a X.env) :: starEach es X.env := by rfl) : Eva en X io (a :: es) (vCons va vr) := weakA (ea_cons h hr hs) ea_lCons
theorem evk_nil : Evk en X io [] vNil := weakK k_nil ea_lNil
theorem evk_cons {vr : VA} {nm : Option Str} {kp : Pos} {kws : List Keyword} (h : Ev en X io a va) (hr : Evk en X io kws vr) : Evk en X io (⟨nm, a, kp⟩ :: kws) (vCons va vr) := weakK (k_cons h hr) ea_lCons
/-! operators -/
def OpV (r : R2T) (rp : PV → PV → (Cell → Prop) → Prop) : Prop := ∀ (F G : Gp) (t u : T) (p q : PV) (Ψ : Cell → Prop) (Φ : QT), Sub F G → RdR F G t p → RdR F G u q → rp p q Ψ →
  (∀ c t' G' H, Ψ c → Fresh G H G' → CellR F H t' c → Φ t' G') → r t u G Φ
def vOp (rp : PV → PV → (Cell → Prop) → Prop) (va vb : VE) : VE := fun σ Ψ => va σ fun r1 σ1 => match fz r1 with
  | some r1 => vb σ1 fun r2 σ2 => (match rd σ2 r1, rd σ2 r2 with
    | some p, some q => rp p q fun c => Ψ (.v c) σ2
    | _, _ => False)
  | none => False
theorem ev_op {r : R2T} {rp : PV → PV → (Cell → Prop) → Prop} (he : ∀ la lb, E en X a la → E en X b lb → E en X e (lOp r la lb)) (ho : OpV r rp) (ha : Ev en X io a va) (hb : Ev en X io b vb) : Ev en X io e (vOp rp va vb) := by
  refine weakL (he _ _ ha hb) fun S G Φ ⟨w, F, own, σ, Ψ, g, q, k⟩ => ?_
  refine ⟨w, F, own, σ, _, g, q, fun r1 σ1 F1 own1 G1 t q1 x1 g1 r1' => ?_⟩
  split at q1
  · rename_i r0 e0
    obtain ⟨F2, g2, x2, ar⟩ := g1.fz r1' e0
    refine ⟨w, F2, own1, σ1, _, g2, q1, fun r2 σ2 F3 own3 G3 u q3 x3 g3 r3 => ?_⟩
    split at q3
    · rename_i p q e1 e2
      exact ho _ _ _ _ _ _ _ _ g3.sub (g3.rdA (ar.sub x3.sub) e1) (g3.rdV r3 e2) q3 fun c t' G' H q4 f h => by
        obtain ⟨g4, m4⟩ := g3.fresh f
        exact k _ _ _ _ _ _ q4 ((x1.trans x2).trans x3) g4 ⟨H, h, m4⟩
    · exact q3.elim
  · exact q1.elim
/-! tests -/
def vB (va : VE) : VT := fun σ Ψ => va σ fun r σ1 => match rd σ1 r with
  | some (.bl b) => Ψ b σ1
  | _ => False
theorem low_vB {N : Nat} {io : List Nat} : ∀ S G Φ, lowVT N io (vB va) S G Φ → lB (lowV N io va) S G Φ := by
  intro S G Φ ⟨w, F, own, σ, Ψ, g, q, k⟩
  refine ⟨w, F, own, σ, _, g, q, fun r σ1 F1 own1 G1 t q1 x1 g1 r1 => ?_⟩
  split at q1
  · rename_i b e
    have := g1.rdV r1 e
    obtain rfl : t = .bl b := this
    exact k _ _ _ _ _ q1 x1 g1
  · exact q1.elim
theorem evt_val (h : Ev en X io a va) (he : ∀ whole, isTrue a X.env whole = (do let v ← whole; standAt a.pos; holding [v] (truthy v)) := by intro _; rfl) : Evt en X io a (vB va) := weakT (et_val h he) low_vB
/-- a comparison as a test -/
theorem evt_op {r : R2T} {rp : PV → PV → (Cell → Prop) → Prop} (he : ∀ la lb, E en X a la → E en X b lb → Et en X e (lB (lOp r la lb))) (ho : OpV r rp) (ha : Ev en X io a va) (hb : Ev en X io b vb) : Evt en X io e (vB (vOp rp va vb)) := by
  refine weakT (he _ _ ha hb) fun S G Φ h => ?_
  obtain ⟨w, F, own, σ, Ψ, g, q, k⟩ := low_vB S G Φ h
  refine ⟨w, F, own, σ, _, g, q, fun r1 σ1 F1 own1 G1 t q1 x1 g1 r1' => ?_⟩
  split at q1
  · rename_i r0 e0
    obtain ⟨F2, g2, x2, ar⟩ := g1.fz r1' e0
    refine ⟨w, F2, own1, σ1, _, g2, q1, fun r2 σ2 F3 own3 G3 u q3 x3 g3 r3 => ?_⟩
    split at q3
    · rename_i p q e1 e2
      exact ho _ _ _ _ _ _ _ _ g3.sub (g3.rdA (ar.sub x3.sub) e1) (g3.rdV r3 e2) q3 fun c t' G' H q4 f h => by
        obtain ⟨g4, m4⟩ := g3.fresh f
        exact k _ _ _ _ _ _ q4 ((x1.trans x2).trans x3) g4 ⟨H, h, m4⟩
    · exact q3.elim
  · exact q1.elim
def vAnd (t u : VT) : VT := fun σ Ψ => t σ fun c σ1 => if c = true then u σ1 Ψ else Ψ false σ1
def vOr (t u : VT) : VT := fun σ Ψ => t σ fun c σ1 => if c = true then Ψ true σ1 else u σ1 Ψ
def vNot (t : VT) : VT := fun σ Ψ => t σ fun c σ1 => Ψ (!c) σ1
variable {vt vu : VT} {rest : List Expr}
theorem evw_and1 (h : Evt en X io a vt) : Evw en X io (.BoolOp .And [a] pos) vt := ew_and1 h
theorem evw_or1 (h : Evt en X io a vt) : Evw en X io (.BoolOp .Or [a] pos) vt := ew_or1 h
theorem evw_and (h : Evt en X io a vt) (hb : Evw en X io (.BoolOp .And (b :: rest) pos) vu) : Evw en X io (.BoolOp .And (a :: b :: rest) pos) (vAnd vt vu) := weakW (ew_and h hb) fun S G Φ ⟨w, F, own, σ, Ψ, g, q, k⟩ => by
  refine ⟨w, F, own, σ, _, g, q, fun c σ1 F1 own1 G1 q1 x1 g1 => ?_⟩
  cases c with
  | true => exact ⟨w, F1, own1, σ1, Ψ, g1, q1, fun b σ2 F2 own2 G2 q2 x2 g2 => k _ _ _ _ _ q2 (x1.trans x2) g2⟩
  | false => exact k _ _ _ _ _ q1 x1 g1
theorem evw_or (h : Evt en X io a vt) (hb : Evw en X io (.BoolOp .Or (b :: rest) pos) vu) : Evw en X io (.BoolOp .Or (a :: b :: rest) pos) (vOr vt vu) := weakW (ew_or h hb) fun S G Φ ⟨w, F, own, σ, Ψ, g, q, k⟩ => by
  refine ⟨w, F, own, σ, _, g, q, fun c σ1 F1 own1 G1 q1 x1 g1 => ?_⟩
  cases c with
  | false => exact ⟨w, F1, own1, σ1, Ψ, g1, q1, fun b σ2 F2 own2 G2 q2 x2 g2 => k _ _ _ _ _ q2 (x1.trans x2) g2⟩
  | true => exact k _ _ _ _ _ q1 x1 g1
theorem evt_w (h : Evw en X io a vt) : Evt en X io a vt := et_w h
theorem evt_not (h : Evt en X io a vt) : Evt en X io (.UnaryOp .Not a pos) (vNot vt) := weakT (et_not h) fun S G Φ ⟨w, F, own, σ, Ψ, g, q, k⟩ => ⟨w, F, own, σ, _, g, q, fun c σ1 F1 own1 G1 q1 x1 g1 => k _ _ _ _ _ q1 x1 g1⟩
def vAndV (va vb : VE) : VE := fun σ Ψ => va σ fun r σ1 => match rd σ1 r with
  | some (.bl c) => if c = true then vb σ1 Ψ else Ψ (.v (.fr (.bl false))) σ1
  | _ => False
def vOrV (va vb : VE) : VE := fun σ Ψ => va σ fun r σ1 => match rd σ1 r with
  | some (.bl c) => if c = true then Ψ (.v (.fr (.bl true))) σ1 else vb σ1 Ψ
  | _ => False
def vNotV (va : VE) : VE := fun σ Ψ => va σ fun r σ1 => match rd σ1 r with
  | some (.bl c) => Ψ (.v (.fr (.bl (!c)))) σ1
  | _ => False
theorem ev_one {op : BoolOp} (h : Ev en X io a va) : Ev en X io (.BoolOp op [a] pos) va := e_one h
theorem ev_and (h : Ev en X io a va) (hb : Ev en X io (.BoolOp .And (b :: rest) pos) vb) : Ev en X io (.BoolOp .And (a :: b :: rest) pos) (vAndV va vb) := weakL (e_and h hb) fun S G Φ ⟨w, F, own, σ, Ψ, g, q, k⟩ => by
  refine ⟨w, F, own, σ, _, g, q, fun r σ1 F1 own1 G1 t q1 x1 g1 r1 => ?_⟩
  split at q1
  · rename_i c e
    obtain rfl : t = .bl c := g1.rdV r1 e
    cases c with
    | true => exact ⟨w, F1, own1, σ1, Ψ, g1, q1, fun b σ2 F2 own2 G2 t2 q2 x2 g2 r2 => k _ _ _ _ _ _ q2 (x1.trans x2) g2 r2⟩
    | false => exact k _ _ _ _ _ _ q1 x1 g1 ⟨nil0, .bl _, .nil⟩
  · exact q1.elim
theorem ev_or (h : Ev en X io a va) (hb : Ev en X io (.BoolOp .Or (b :: rest) pos) vb) : Ev en X io (.BoolOp .Or (a :: b :: rest) pos) (vOrV va vb) := weakL (e_or h hb) fun S G Φ ⟨w, F, own, σ, Ψ, g, q, k⟩ => by
  refine ⟨w, F, own, σ, _, g, q, fun r σ1 F1 own1 G1 t q1 x1 g1 r1 => ?_⟩
  split at q1
  · rename_i c e
    obtain rfl : t = .bl c := g1.rdV r1 e
    cases c with
    | false => exact ⟨w, F1, own1, σ1, Ψ, g1, q1, fun b σ2 F2 own2 G2 t2 q2 x2 g2 r2 => k _ _ _ _ _ _ q2 (x1.trans x2) g2 r2⟩
    | true => exact k _ _ _ _ _ _ q1 x1 g1 ⟨nil0, .bl _, .nil⟩
  · exact q1.elim
theorem ev_not (h : Ev en X io a va) : Ev en X io (.UnaryOp .Not a pos) (vNotV va) := weakL (e_not h) fun S G Φ ⟨w, F, own, σ, Ψ, g, q, k⟩ => by
  refine ⟨w, F, own, σ, _, g, q, fun r σ1 F1 own1 G1 t q1 x1 g1 r1 => ?_⟩
  split at q1
  · rename_i c e
    obtain rfl : t = .bl c := g1.rdV r1 e
    exact k _ _ _ _ _ _ q1 x1 g1 ⟨nil0, .bl _, .nil⟩
  · exact q1.elim
def vIf (t : VT) (va vb : VE) : VE := fun σ Ψ => t σ fun c σ1 => if c = true then va σ1 Ψ else vb σ1 Ψ
theorem ev_if (h : Evt en X io c vt) (ha : Ev en X io a va) (hb : Ev en X io b vb) : Ev en X io (.IfExp c a b pos) (vIf vt va vb) := weakL (e_if h ha hb) fun S G Φ ⟨w, F, own, σ, Ψ, g, q, k⟩ => by
  refine ⟨w, F, own, σ, _, g, q, fun d σ1 F1 own1 G1 q1 x1 g1 => ?_⟩
  cases d with
  | true => exact ⟨w, F1, own1, σ1, Ψ, g1, q1, fun b σ2 F2 own2 G2 t2 q2 x2 g2 r2 => k _ _ _ _ _ _ q2 (x1.trans x2) g2 r2⟩
  | false => exact ⟨w, F1, own1, σ1, Ψ, g1, q1, fun b σ2 F2 own2 G2 t2 q2 x2 g2 r2 => k _ _ _ _ _ _ q2 (x1.trans x2) g2 r2⟩
/-! chains: the first answer is a bool of its own -/
def OpB (r : R2T) (rp : PV → PV → (Bool → Prop) → Prop) : Prop := ∀ (F G : Gp) (t u : T) (p q : PV) (Ψ : Bool → Prop) (Φ : QT), Sub F G → RdR F G t p → RdR F G u q → rp p q Ψ → (∀ b, Ψ b → Φ (.bl b) G) → r t u G Φ
def bP (rp : PV → PV → (Bool → Prop) → Prop) : PV → PV → (Cell → Prop) → Prop := fun p q k => rp p q fun b => k (.fr (.bl b))
theorem OpB.v {r : R2T} {rp : PV → PV → (Bool → Prop) → Prop} (h : OpB r rp) : OpV r (bP rp) := fun F G t u p q Ψ Φ s a b q1 k => h F G t u p q _ Φ s a b q1 fun c hc => k _ _ _ nil0 hc .no (.bl c)
def vChain (rp rp' : PV → PV → (Bool → Prop) → Prop) (va vb vc : VE) : VE := fun σ Ψ => va σ fun r1 σ1 => match fz r1 with
  | some r1 => vb σ1 fun r2 σ2 => (match fz r2 with
    | some r2 => (match rd σ2 r1, rd σ2 r2 with
      | some p, some q => rp p q fun z => if z = true then vc σ2 fun r3 σ3 => (match rd σ3 r2, rd σ3 r3 with
        | some q, some w => rp' q w fun z => Ψ (.v (.fr (.bl z))) σ3
        | _, _ => False) else Ψ (.v (.fr (.bl false))) σ2
      | _, _ => False)
    | none => False)
  | none => False
theorem low_vChain {N : Nat} {io : List Nat} {r r' : R2T} {rp rp' : PV → PV → (Bool → Prop) → Prop} (ho : OpB r rp) (ho' : OpB r' rp') : ∀ S G Φ, lowV N io (vChain rp rp' va vb vc) S G Φ → lChain r r' (lowV N io va) (lowV N io vb) (lowV N io vc) S G Φ := by
  intro S G Φ ⟨w, F, own, σ, Ψ, g, q, k⟩
  refine ⟨w, F, own, σ, _, g, q, fun r1 σ1 F1 own1 G1 t q1 x1 g1 r1' => ?_⟩
  split at q1
  · rename_i r0 e0
    obtain ⟨F2, g2, x2, ar⟩ := g1.fz r1' e0
    refine ⟨w, F2, own1, σ1, _, g2, q1, fun r2 σ2 F3 own3 G3 u q3 x3 g3 r3 => ?_⟩
    split at q3
    · rename_i r20 e20
      obtain ⟨F4, g4, x4, ar2⟩ := g3.fz r3 e20
      have x := ((x1.trans x2).trans x3).trans x4
      split at q3
      · rename_i p q e1 e2
        refine ho _ _ _ _ _ _ _ _ g4.sub (g4.rdA ((ar.sub x3.sub).sub x4.sub) e1) (g4.rdA ar2 e2) q3 fun z hz => ?_
        cases z with
        | false => exact k _ _ _ _ _ _ hz x g4 ⟨nil0, .bl _, .nil⟩
        | true =>
          refine ⟨w, F4, own3, σ2, _, g4, hz, fun r5 σ5 F5 own5 G5 w q5 x5 g5 r5' => ?_⟩
          split at q5
          · rename_i q' w' e3 e4
            exact ho' _ _ _ _ _ _ _ _ g5.sub (g5.rdA (ar2.sub x5.sub) e3) (g5.rdV r5' e4) q5 fun z hz => k _ _ _ _ _ _ hz (x.trans x5) g5 ⟨nil0, .bl _, .nil⟩
          · exact q5.elim
      · exact q3.elim
    · exact q3.elim
  · exact q1.elim
theorem ev_chain {r r' : R2T} {rp rp' : PV → PV → (Bool → Prop) → Prop} (he : ∀ la lb lc, E en X a la → E en X b lb → E en X c lc → E en X e (lChain r r' la lb lc)) (ho : OpB r rp) (ho' : OpB r' rp') (ha : Ev en X io a va) (hb : Ev en X io b vb) (hc : Ev en X io c vc) :
    Ev en X io e (vChain rp rp' va vb vc) := weakL (he _ _ _ ha hb hc) (low_vChain ho ho')
theorem evt_chain {r r' : R2T} {rp rp' : PV → PV → (Bool → Prop) → Prop} (he : ∀ la lb lc, E en X a la → E en X b lb → E en X c lc → Et en X e (lB (lChain r r' la lb lc))) (ho : OpB r rp) (ho' : OpB r' rp') (ha : Ev en X io a va) (hb : Ev en X io b vb) (hc : Ev en X io c vc) :
    Evt en X io e (vB (vChain rp rp' va vb vc)) := weakT (he _ _ _ ha hb hc) fun S G Φ h => low_vChain ho ho' S G _ (low_vB S G Φ h)
/-! built-ins, displays -/
def RdL (F G : Gp) : List T → List PV → Prop
  | [], [] => True
  | t :: ts, p :: ps => RdR F G t p ∧ RdL F G ts ps
  | _, _ => False
def rdL (σ : SV) : List RV → Option (List PV)
  | [] => some []
  | r :: rs => match rd σ r, rdL σ rs with
    | some p, some ps => some (p :: ps)
    | _, _ => none
theorem rdL_ok {fx : Fx} {F G : Gp} {own : Nat → Gp} {S : S2} {σ : SV} (g : VRel fx F own S G σ) : ∀ {ts : List T} {rs : List RV} {ps : List PV}, ArL F S ts rs → rdL σ rs = some ps → RdL F G ts ps
  | [], [], _, _, e => by cases e; exact trivial
  | t :: ts, r :: rs, ps, h, e => by
    simp only [rdL] at e
    split at e
    · rename_i p qs e1 e2
      cases e
      exact ⟨g.rdA h.1 e1, rdL_ok g h.2 e2⟩
    · cases e
  | [], _ :: _, _, h, _ => h.elim
  | _ :: _, [], _, h, _ => h.elim
def CbV (r : RLT) (rp : List PV → (Cell → Prop) → Prop) : Prop := ∀ (F G : Gp) (ts : List T) (ps : List PV) (Ψ : Cell → Prop) (Φ : QT), Sub F G → RdL F G ts ps → rp ps Ψ →
  (∀ c t' G' H, Ψ c → Fresh G H G' → CellR F H t' c → Φ t' G') → r ts G Φ
def vCB (rp : List PV → (Cell → Prop) → Prop) (va : VA) : VE := fun σ Ψ => va σ fun rs σ1 => match rdL σ1 rs with
  | some ps => rp ps fun c => Ψ (.v c) σ1
  | none => False
theorem ev_cb {r : RLT} {rp : List PV → (Cell → Prop) → Prop} {va : VA} (he : ∀ l, Ea en X es l → E en X e (lCB r l)) (ho : CbV r rp) (ha : Eva en X io es va) : Ev en X io e (vCB rp va) := by
  refine weakL (he _ ha) fun S G Φ ⟨w, F, own, σ, Ψ, g, q, k⟩ => ?_
  refine ⟨w, F, own, σ, _, g, q, fun rs σ1 F1 own1 G1 ts q1 x1 g1 r1 => ?_⟩
  split at q1
  · rename_i ps e
    refine ho _ _ _ _ _ _ g1.sub (rdL_ok g1 r1 e) q1 fun c t' G' H q4 f h => ?_
    obtain ⟨g4, m4⟩ := g1.fresh f
    exact k _ _ _ _ _ _ q4 x1 g4 ⟨H, h, m4⟩
  · exact q1.elim
/-- all frozen -/
def tkL (σ : SV) : List RV → Option (List PV × SV)
  | [] => some ([], σ)
  | r :: rs => match tk σ r with
    | some (p, σ1) => (match tkL σ1 rs with
      | some (ps, σ2) => some (p :: ps, σ2)
      | none => none)
    | none => none
theorem ArR.rv {fx : Fx} {F : Gp} {own : Nat → Gp} {S : S2} {G : Gp} {t : T} {r : RV} (h : ArR F S t r) : RvR fx F own S G t r := by
  cases r with
  | v c =>
    cases c with
    | fr p => exact ⟨nil0, h, .nil⟩
    | _ => exact h.elim
  | sl i => exact h
theorem ArL.sub {F F' : Gp} {S : S2} (s : Sub F F') : ∀ {ts : List T} {rs : List RV}, ArL F S ts rs → ArL F' S ts rs
  | [], [], _ => trivial
  | _ :: _, _ :: _, h => ⟨h.1.sub s, ArL.sub s h.2⟩
  | [], _ :: _, h => h.elim
  | _ :: _, [], h => h.elim
theorem tkL_ok {fx : Fx} {G : Gp} {S : S2} : ∀ {ts : List T} {rs : List RV} {ps : List PV} {F : Gp} {own : Nat → Gp} {σ σ' : SV}, VRel fx F own S G σ → ArL F S ts rs → tkL σ rs = some (ps, σ') → ∃ F' own', VRel fx F' own' S G σ' ∧ Ext F F' ∧ RpL F' ts ps
  | [], [], _, F, own, σ, σ', g, _, e => by cases e; exact ⟨F, own, g, .refl, .nil⟩
  | t :: ts, r :: rs, ps, F, own, σ, σ', g, h, e => by
    simp only [tkL] at e
    split at e
    · rename_i p σ1 e1
      split at e
      · rename_i qs σ2 e2
        cases e
        obtain ⟨F1, own1, g1, x1, r1⟩ := g.tk h.1.rv e1
        obtain ⟨F2, own2, g2, x2, r2⟩ := tkL_ok g1 (h.2.sub x1.sub) e2
        exact ⟨F2, own2, g2, x1.trans x2, .cons (r1.sub x2.sub) r2⟩
      · cases e
    · cases e
  | [], _ :: _, _, _, _, _, _, _, h, _ => h.elim
  | _ :: _, [], _, _, _, _, _, _, h, _ => h.elim
def vTup (va : VA) : VE := fun σ Ψ => va σ fun rs σ1 => match tkL σ1 rs with
  | some (ps, σ2) => ps.length ≤ sizeLine ∧ Ψ (.v (.fr (.tup ps))) σ2
  | none => False
def vLst (va : VA) : VE := fun σ Ψ => va σ fun rs σ1 => match tkL σ1 rs with
  | some (ps, σ2) => ps.length ≤ sizeLine ∧ Ψ (.v (.ow (.lst ps))) σ2
  | none => False
theorem ev_tup {va : VA} {k : Nat} (h : Eva en X io es va) : Ev en X io (.Tuple es k pos) (vTup va) := by
  refine weakL (e_tup h) fun S G Φ ⟨w, F, own, σ, Ψ, g, q, k⟩ => ?_
  refine ⟨w, F, own, σ, _, g, q, fun rs σ1 F1 own1 G1 ts q1 x1 g1 r1 => ?_⟩
  split at q1
  · rename_i ps σ2 e
    obtain ⟨F2, own2, g2, x2, r2⟩ := tkL_ok g1 r1 e
    exact ⟨by rw [r2.length]; exact q1.1, k _ _ _ _ _ _ q1.2 (x1.trans x2) g2 ⟨nil0, .tup r2, .nil⟩⟩
  · exact q1.elim
theorem ev_lst {va : VA} (h : Eva en X io es va) : Ev en X io (.List es pos) (vLst va) := by
  refine weakL (e_lst h) fun S G Φ ⟨w, F, own, σ, Ψ, g, q, k⟩ => ?_
  refine ⟨w, F, own, σ, _, g, q, fun rs σ1 F1 own1 G1 ts q1 x1 g1 r1 => ?_⟩
  split at q1
  · rename_i ps σ2 e
    obtain ⟨F2, own2, g2, x2, r2⟩ := tkL_ok g1 r1 e
    refine ⟨by rw [r2.length]; exact q1.1, fun p hp => ?_⟩
    obtain ⟨g4, m4⟩ := g2.fresh (Fresh.new (o := .lst ts) hp)
    exact k _ _ _ _ _ _ q1.2 (x1.trans x2) g4 ⟨_, ⟨p, ts, rfl, rfl, r2⟩, m4⟩
  · exact q1.elim
def vDict0 : VE := fun σ Ψ => Ψ (.v (.ow (.dic []))) σ
theorem ev_dict0 : Ev en X io (.Dict [] [] pos) vDict0 := weakL e_dict0 fun S G Φ ⟨w, F, own, σ, Ψ, g, q, k⟩ p hp => by
  obtain ⟨g4, m4⟩ := g.fresh (Fresh.new (o := .dic []) hp)
  exact k _ _ _ _ _ _ q .refl g4 ⟨_, ⟨p, [], rfl, rfl, .nil⟩, m4⟩
/-! slices -/
abbrev VO := SV → (Option Int → SV → Prop) → Prop
def lowVO (N : Nat) (io : List Nat) (vo : VO) : LO := fun S G Φ => ∃ w F own σ Ψ, VRel (fxo N io w) F own S G σ ∧ vo σ Ψ ∧ ∀ i σ' F' own' G', Ψ i σ' → Ext F F' → VRel (fxo N io w) F' own' S G' σ' → Φ i G'
def Evo (en : En) (X : Cx) (io : List Nat) (e : Option Expr) (vo : VO) : Prop := Eo en X e (lowVO X.N.length io vo)
theorem weakO {oe : Option Expr} {l l' : LO} (h : Eo en X oe l) (w : ∀ S G Φ, l' S G Φ → l S G Φ) : Eo en X oe l' := PO.weak h fun σ H Q ⟨S, G, Φ, s, g, q, k⟩ => ⟨S, G, Φ, s, g, w S G Φ q, k⟩
def vNo : VO := fun σ Ψ => Ψ none σ
def vSome (va : VE) : VO := fun σ Ψ => va σ fun r σ1 => match rd σ1 r with
  | some (.int i) => Ψ (some i) σ1
  | _ => False
theorem evo_none : Evo en X io none vNo := weakO eo_none fun S G Φ ⟨w, F, own, σ, Ψ, g, q, k⟩ => k _ _ _ _ _ q .refl g
theorem evo_some (h : Ev en X io a va) : Evo en X io (some a) (vSome va) := weakO (eo_some h) fun S G Φ ⟨w, F, own, σ, Ψ, g, q, k⟩ => by
  refine ⟨w, F, own, σ, _, g, q, fun r σ1 F1 own1 G1 t q1 x1 g1 r1 => ?_⟩
  split at q1
  · rename_i c e
    obtain rfl : t = .int c := g1.rdV r1 e
    exact k _ _ _ _ _ q1 x1 g1
  · exact q1.elim
def slP : PV → Option Int → Option Int → (Cell → Prop) → Prop
  | .tup xs, lo, hi, k => k (.fr (.tup (cut xs lo hi)))
  | .lst xs, lo, hi, k => k (.ow (.lst (cut xs lo hi)))
  | .str z, lo, hi, k => z.length ≤ sizeLine ∧ k (.fr (.str (cutS z lo hi)))
  | _, _, _, _ => False
theorem RpL.cut {F : Gp} {ts : List T} {ps : List PV} (r : RpL F ts ps) (lo hi : Option Int) : RpL F (cut ts lo hi) (cut ps lo hi) := by
  unfold Dv.cut
  rw [r.length]
  exact (r.drop _).take _
def vSl (va : VE) (vl vh : VO) : VE := fun σ Ψ => va σ fun r σ1 => match fz r with
  | some r => vl σ1 fun i σ2 => vh σ2 fun j σ3 => (match rd σ3 r with
    | some p => slP p i j fun c => Ψ (.v c) σ3
    | none => False)
  | none => False
theorem ev_slice {lo hi : Option Expr} {vl vh : VO} {p2 : Pos} (h : Ev en X io a va) (hl : Evo en X io lo vl) (hh : Evo en X io hi vh) : Ev en X io (.Subscript a (.Slice lo hi none p2) pos) (vSl va vl vh) := weakL (e_slice h hl hh) fun S G Φ ⟨w, F, own, σ, Ψ, g, q, k⟩ => by
  refine ⟨w, F, own, σ, _, g, q, fun r σ1 F1 own1 G1 t q1 x1 g1 r1 => ?_⟩
  split at q1
  · rename_i r0 e0
    obtain ⟨F2, g2, x2, ar⟩ := g1.fz r1 e0
    refine ⟨w, F2, own1, σ1, _, g2, q1, fun i σ3 F3 own3 G3 q3 x3 g3 => ?_⟩
    refine ⟨w, F3, own3, σ3, _, g3, q3, fun j σ4 F4 own4 G4 q4 x4 g4 => ?_⟩
    have x := ((x1.trans x2).trans x3).trans x4
    split at q4
    · rename_i p e1
      have rr := g4.rdA ((ar.sub x3.sub).sub x4.sub) e1
      cases p with
      | tup ps =>
        obtain ⟨ts, rfl, h⟩ := rr
        exact k _ _ _ _ _ _ q4 x g4 ⟨nil0, .tup (h.cut _ _), .nil⟩
      | lst ps =>
        obtain ⟨ad, ts, rfl, h1, h⟩ := rr
        simp only [slT, h1]
        intro p hp
        obtain ⟨g5, m5⟩ := g4.fresh (Fresh.new (o := .lst (cut ts i j)) hp)
        exact k _ _ _ _ _ _ q4 x g5 ⟨_, ⟨p, _, rfl, rfl, h.cut _ _⟩, m5⟩
      | str z =>
        obtain rfl : t = .str z := rr
        exact ⟨q4.1, k _ _ _ _ _ _ q4.2 x g4 ⟨nil0, .str _, .nil⟩⟩
      | _ => exact q4.elim
    · exact q4.elim
  · exact q1.elim
/-- xs[::-1] -/
def vRev (va : VE) : VE := fun σ Ψ => va σ fun r σ1 => match rd σ1 r with
  | some (.lst xs) => Ψ (.v (.ow (.lst xs.reverse))) σ1
  | _ => False
theorem ev_rev {k : Nat} {p1 p2 p3 : Pos} (h : Ev en X io a va) : Ev en X io (.Subscript a (.Slice none none (some (.UnaryOp .USub (.Constant (.int 1) k p1) p2)) p3) pos) (vRev va) := weakL (e_rev h) fun S G Φ ⟨w, F, own, σ, Ψ, g, q, k⟩ => by
  refine ⟨w, F, own, σ, _, g, q, fun r σ1 F1 own1 G1 t q1 x1 g1 r1 => ?_⟩
  split at q1
  · rename_i xs e
    obtain ⟨ad, ts, rfl, h1, h⟩ := g1.rdV r1 e
    simp only [revT, h1]
    intro p hp
    obtain ⟨g5, m5⟩ := g1.fresh (Fresh.new (o := .lst ts.reverse) hp)
    exact k _ _ _ _ _ _ q1 x1 g5 ⟨_, ⟨p, _, rfl, rfl, h.rev⟩, m5⟩
  · exact q1.elim
def vNeg (va : VE) : VE := fun σ Ψ => va σ fun r σ1 => match rd σ1 r with
  | some (.int i) => Ψ (.v (.fr (.int (-i)))) σ1
  | _ => False
theorem ev_neg (h : Ev en X io a va) : Ev en X io (.UnaryOp .USub a pos) (vNeg va) := weakL (e_neg h) fun S G Φ ⟨w, F, own, σ, Ψ, g, q, k⟩ => by
  refine ⟨w, F, own, σ, _, g, q, fun r σ1 F1 own1 G1 t q1 x1 g1 r1 => ?_⟩
  split at q1
  · rename_i i e
    obtain rfl : t = .int i := g1.rdV r1 e
    exact k _ _ _ _ _ _ q1 x1 g1 ⟨nil0, .int _, .nil⟩
  · exact q1.elim
/-- isinstance(x, (A, B)) -/
def tyP : PV → Option String
  | .non => some "NoneType" | .bl _ => some "bool" | .int _ => some "int" | .str _ => some "str" | .tup _ => some "tuple" | .lst _ => some "list" | .dic _ => some "dict" | _ => none
theorem tyP_ok {F G : Gp} {t : T} {p : PV} {m : String} (r : RdR F G t p) (h : tyP p = some m) : tyS t G = some m := by
  cases p with
  | non => cases r; exact h
  | bl b => cases r; exact h
  | int i => cases r; exact h
  | str x => cases r; exact h
  | ty n => cases h
  | tup ps => obtain ⟨ts, rfl, _⟩ := r; exact h
  | lst ps => obtain ⟨a, ts, rfl, h1, _⟩ := r; simpa [tyS, h1, tyP] using h
  | dic ps =>
    obtain ⟨a, ts, rfl, h1, _⟩ := r
    unfold dicAt at h1
    split at h1
    · rename_i e; simpa [tyS, e, tyP] using h
    · rename_i e; simpa [tyS, e, tyP] using h
    · cases h1
  | ins C ps => cases h
def vIsi2 (n1 n2 : String) (va : VE) : VE := fun σ Ψ => va σ fun r σ1 => match rd σ1 r with
  | some p => n1 ∈ tysS ∧ n2 ∈ tysS ∧ (match tyP p with
    | some m => Ψ (.v (.fr (.bl (subS m n1 || subS m n2)))) σ1
    | none => False)
  | none => False
theorem ev_isi2 {n1 n2 : String} (he : ∀ la, E en X a la → E en X e (lIsi2 n1 n2 la)) (h : Ev en X io a va) : Ev en X io e (vIsi2 n1 n2 va) := weakL (he _ h) fun S G Φ ⟨w, F, own, σ, Ψ, g, q, k⟩ => by
  refine ⟨w, F, own, σ, _, g, q, fun r σ1 F1 own1 G1 t q1 x1 g1 r1 => ?_⟩
  split at q1
  · rename_i p e
    obtain ⟨h1, h2, q1⟩ := q1
    refine ⟨h1, h2, ?_⟩
    split at q1
    · rename_i m em
      rw [tyP_ok (g1.rdV r1 e) em]
      exact k _ _ _ _ _ _ q1 x1 g1 ⟨nil0, .bl _, .nil⟩
    · exact q1.elim
  · exact q1.elim
end
end Vl
namespace Vl
open PySem L2 Dv
/-! ### values as data -/
mutual
def pvd : PV → PyData
  | .non => .none
  | .bl b => .bool b
  | .int i => .int i
  | .str x => .str x
  | .tup ts => .tuple (pvdL ts)
  | .lst ts => .list (pvdL ts)
  | _ => .none
def pvdL : List PV → List PyData
  | [] => []
  | t :: ts => pvd t :: pvdL ts
end
mutual
def okP : PV → Bool
  | .non => true
  | .bl _ => true
  | .int _ => true
  | .str x => PyData.strOk x
  | .tup ts => okL ts
  | .lst ts => okL ts
  | _ => false
def okL : List PV → Bool
  | [] => true
  | t :: ts => okP t && okL ts
end
mutual
/-- no truth value meets a number -/
def cpP : PV → PV → Bool
  | .tup xs, .tup ys => cpL xs ys
  | .lst xs, .lst ys => cpL xs ys
  | .bl _, .int _ => false
  | .int _, .bl _ => false
  | _, _ => true
def cpL : List PV → List PV → Bool
  | x :: xs, y :: ys => cpP x y && cpL xs ys
  | _, _ => true
end
mutual
def dpP : PV → Nat
  | .tup ts => dpL ts + 1
  | .lst ts => dpL ts + 1
  | _ => 0
def dpL : List PV → Nat
  | [] => 0
  | t :: ts => max (dpP t) (dpL ts)
end
mutual
theorem ok_dat {G : Gp} : ∀ {p : PV} {t : T}, okP p = true → Rp G t p → Dat G t (pvd p) ∧ (pvd p).canLay0 = true ∧ (pvd p).depth = dpP p
  | .non, _, _, .non => ⟨.non, rfl, rfl⟩
  | .bl b, _, _, .bl _ => ⟨.bl b, rfl, rfl⟩
  | .int i, _, _, .int _ => ⟨.int i, rfl, rfl⟩
  | .str x, _, h, .str _ => ⟨.str x, by simpa [pvd, PyData.canLay0, okP] using h, rfl⟩
  | .tup ps, _, h, .tup r => by
    obtain ⟨h1, h2, h3⟩ := okL_dat (G := G) (by simpa [okP] using h) r
    refine ⟨.tup h1, by simpa [pvd, PyData.canLay0] using h2, ?_⟩
    simp [pvd, PyData.depth, dpP, h3]
  | .lst ps, _, h, .lst hg r => by
    obtain ⟨h1, h2, h3⟩ := okL_dat (G := G) (by simpa [okP] using h) r
    refine ⟨.lst hg h1, by simpa [pvd, PyData.canLay0] using h2, ?_⟩
    simp [pvd, PyData.depth, dpP, h3]
theorem okL_dat {G : Gp} : ∀ {ps : List PV} {ts : List T}, okL ps = true → RpL G ts ps → DatL G ts (pvdL ps) ∧ PyData.canLayAll0 (pvdL ps) = true ∧ PyData.depthAll (pvdL ps) = dpL ps
  | [], _, _, .nil => ⟨.nil, by simp [pvdL, PyData.canLayAll0], by simp [pvdL, PyData.depthAll, dpL]⟩
  | p :: ps, _, h, .cons r rs => by
    have h' : okP p = true ∧ okL ps = true := by simpa [okL] using h
    obtain ⟨a1, a2, a3⟩ := ok_dat (G := G) h'.1 r
    obtain ⟨b1, b2, b3⟩ := okL_dat (G := G) h'.2 rs
    exact ⟨.cons a1 b1, by simp [pvdL, PyData.canLayAll0, a2, b2], by simp [pvdL, PyData.depthAll, dpL, a3, b3]⟩
end
theorem beq_dec' {α : Type} [BEq α] [LawfulBEq α] (a b : α) [Decidable (a = b)] : (a == b) = decide (a = b) := by
  by_cases h : a = b
  · subst h; simp
  · rw [beq_eq_false_iff_ne.mpr h, decide_eq_false h]
mutual
theorem eqv_pv : ∀ (p q : PV), okP p = true → okP q = true → cpP p q = true → PyData.eqv (pvd p) (pvd q) = decide (p = q)
  | .non, u, _, h, _ => by cases u <;> simp_all [pvd, PyData.eqv, okP]
  | .bl b, u, _, h, c => by cases u <;> simp_all [pvd, PyData.eqv, okP, cpP]; exact beq_dec' _ _
  | .int b, u, _, h, c => by cases u <;> simp_all [pvd, PyData.eqv, okP, cpP]; exact beq_dec' _ _
  | .str b, u, _, h, c => by cases u <;> simp_all [pvd, PyData.eqv, okP, cpP]; exact beq_dec' _ _
  | .ty _, u, h, _, _ => by simp [okP] at h
  | .dic _, u, h, _, _ => by simp [okP] at h
  | .ins _ _, u, h, _, _ => by simp [okP] at h
  | .tup xs, u, h, h2, c => by
    cases u with
    | tup ys =>
      simp only [pvd, PyData.eqv, PV.tup.injEq]
      exact eqv_pvL xs ys (by simpa [okP] using h) (by simpa [okP] using h2) (by simpa [cpP] using c)
    | _ => simp_all [pvd, PyData.eqv, okP]
  | .lst xs, u, h, h2, c => by
    cases u with
    | lst ys =>
      simp only [pvd, PyData.eqv, PV.lst.injEq]
      exact eqv_pvL xs ys (by simpa [okP] using h) (by simpa [okP] using h2) (by simpa [cpP] using c)
    | _ => simp_all [pvd, PyData.eqv, okP]
theorem eqv_pvL : ∀ (xs ys : List PV), okL xs = true → okL ys = true → cpL xs ys = true → PyData.eqvAll (pvdL xs) (pvdL ys) = decide (xs = ys)
  | [], [], _, _, _ => by simp [pvdL, PyData.eqvAll]
  | [], _ :: _, _, _, _ => by simp [pvdL, PyData.eqvAll]
  | _ :: _, [], _, _, _ => by simp [pvdL, PyData.eqvAll]
  | x :: xs, y :: ys, h, h2, c => by
    have h' : okP x = true ∧ okL xs = true := by simpa [okL] using h
    have h2' : okP y = true ∧ okL ys = true := by simpa [okL] using h2
    have c' : cpP x y = true ∧ cpL xs ys = true := by simpa [cpL] using c
    simp only [pvdL, PyData.eqvAll, eqv_pv x y h'.1 h2'.1 c'.1, eqv_pvL xs ys h'.2 h2'.2 c'.2, List.cons.injEq, Bool.decide_and]
end
def scP : PV → PV → Bool
  | .non, .non => true | .non, .int _ => true | .int _, .non => true | .non, .bl _ => true | .bl _, .non => true | .non, .str _ => true | .str _, .non => true
  | .int _, .int _ => true | .bl _, .bl _ => true | .str _, .str _ => true
  | .int _, .str _ => true | .str _, .int _ => true | .bl _, .str _ => true | .str _, .bl _ => true
  | _, _ => false
theorem scP_ok {F G : Gp} {t u : T} {p q : PV} (rt : RdR F G t p) (ru : RdR F G u q) (h : scP p q = true) : scalT t u = true ∧ decide (t = u) = decide (p = q) := by
  cases p <;> cases q <;> first | exact absurd h Bool.false_ne_true | (cases rt; cases ru; refine ⟨rfl, ?_⟩; simp)
/-- the two can be compared -/
def Cmp (p q : PV) : Prop := scP p q = true ∨ (okP p = true ∧ okP q = true ∧ cpP p q = true ∧ dpP p ≤ 62 ∧ dpP q ≤ 62)
theorem eqD_of {neg : Bool} {F G : Gp} {t u : T} {p q : PV} {Φ : QT} (s : Sub F G) (rt : RdR F G t p) (ru : RdR F G u q) (h : okP p = true ∧ okP q = true ∧ cpP p q = true ∧ dpP p ≤ 62 ∧ dpP q ≤ 62) (k : Φ (.bl (if neg then !decide (p = q) else decide (p = q))) G) : eqD neg t u G Φ := by
  obtain ⟨h1, h2, h3, h4, h5⟩ := h
  obtain ⟨d1, c1, e1⟩ := ok_dat h1 (rt.rp s)
  obtain ⟨d2, c2, e2⟩ := ok_dat h2 (ru.rp s)
  refine ⟨_, _, d1, d2, shaped_of c1 (by rw [e1]; omega), shaped_of c2 (by rw [e2]; omega), ?_⟩
  rw [eqv_pv p q h1 h2 h3]
  exact k
def eqB : PV → PV → (Bool → Prop) → Prop := fun p q k => Cmp p q ∧ k (decide (p = q))
def neB : PV → PV → (Bool → Prop) → Prop := fun p q k => Cmp p q ∧ k (!decide (p = q))
theorem ob_eq : OpB eqT eqB := fun F G t u p q Ψ Φ s rt ru h k => by
  unfold eqT
  rcases h.1 with z | z
  · obtain ⟨h1, h2⟩ := scP_ok rt ru z
    rw [if_pos h1, h2]
    exact k _ h.2
  · split
    · rename_i h1
      cases hs : scP p q
      · exfalso
        cases p <;> cases q <;> simp_all [scP, RdR, scalT, cpP, okP]
        all_goals (first | (obtain ⟨a, ts, e, _⟩ := rt; subst e; simp [scalT] at h1) | (obtain ⟨ts, e, _⟩ := rt; subst e; simp [scalT] at h1) | (obtain ⟨a, ts, e, _⟩ := ru; subst e; simp [scalT] at h1) | (obtain ⟨ts, e, _⟩ := ru; subst e; simp [scalT] at h1))
      · rw [(scP_ok rt ru hs).2]
        exact k _ h.2
    · exact eqD_of s rt ru z (k _ h.2)
theorem ob_ne : OpB neT neB := fun F G t u p q Ψ Φ s rt ru h k => by
  unfold neT
  rcases h.1 with z | z
  · obtain ⟨h1, h2⟩ := scP_ok rt ru z
    rw [if_pos h1, h2]
    exact k _ h.2
  · split
    · rename_i h1
      cases hs : scP p q
      · exfalso
        cases p <;> cases q <;> simp_all [scP, RdR, scalT, cpP, okP]
        all_goals (first | (obtain ⟨a, ts, e, _⟩ := rt; subst e; simp [scalT] at h1) | (obtain ⟨ts, e, _⟩ := rt; subst e; simp [scalT] at h1) | (obtain ⟨a, ts, e, _⟩ := ru; subst e; simp [scalT] at h1) | (obtain ⟨ts, e, _⟩ := ru; subst e; simp [scalT] at h1))
      · rw [(scP_ok rt ru hs).2]
        exact k _ h.2
    · exact eqD_of s rt ru z (k _ h.2)
/-! orders -/
def ordB (f : Int → Int → Bool) (h : Str → Str → Bool) : PV → PV → (Bool → Prop) → Prop
  | .int i, .int j, k => k (f i j)
  | .str a, .str b, k => k (h a b)
  | _, _, _ => False
theorem ob_ord {f : Int → Int → Bool} {h : Str → Str → Bool} : OpB (ordT f h) (ordB f h) := fun F G t u p q Ψ Φ s rt ru hh k => by
  cases p with
  | int i =>
    cases q with
    | int j => cases rt; cases ru; exact k _ hh
    | _ => exact hh.elim
  | str i =>
    cases q with
    | str j => cases rt; cases ru; exact k _ hh
    | _ => exact hh.elim
  | _ => cases q <;> exact hh.elim
def isNonP : PV → Bool
  | .non => true
  | _ => false
theorem isNon_ok {F G : Gp} {t : T} {p : PV} (r : RdR F G t p) : decide (t = .non) = isNonP p := by
  cases p with
  | non => cases r; rfl
  | bl b => cases r; rfl
  | int i => cases r; rfl
  | str x => cases r; rfl
  | ty n => cases r; rfl
  | tup ps => obtain ⟨ts, rfl, _⟩ := r; rfl
  | lst ps => obtain ⟨a, ts, rfl, _⟩ := r; rfl
  | dic ps => obtain ⟨a, ts, rfl, _⟩ := r; rfl
  | ins C ps => obtain ⟨a, ts, rfl, _⟩ := r; rfl
def isB (neg : Bool) : PV → PV → (Bool → Prop) → Prop
  | p, .non, k => k (if neg then !isNonP p else isNonP p)
  | .bl a, .bl b, k => k (if neg then !decide (a = b) else decide (a = b))
  | _, _, _ => False
theorem ob_is {neg : Bool} : OpB (isT neg) (isB neg) := fun F G t u p q Ψ Φ s rt ru hh k => by
  cases q with
  | non =>
    cases ru
    have hh : Ψ (if neg then !isNonP p else isNonP p) := by cases p <;> exact hh
    have e := isNon_ok rt
    have : isT neg t .non G Φ = Φ (.bl (if neg then !decide (t = .non) else decide (t = .non))) G := by cases t <;> rfl
    rw [this, e]
    exact k _ hh
  | bl b =>
    cases p with
    | bl a => cases rt; cases ru; exact k _ hh
    | _ => exact hh.elim
  | _ => cases p <;> exact hh.elim
/-! membership -/
theorem dicAt_or {G : Gp} {a : Addr} {ts : List (T × T)} (h : dicAt G a = some ts) : G a = some (.dic ts) ∨ ∃ ob raw, G a = some (.fdic ob raw ts) := by
  unfold dicAt at h
  split at h
  · rename_i e; cases h; exact .inl e
  · rename_i ob raw _ e; cases h; exact .inr ⟨ob, raw, e⟩
  · cases h
def inB (neg : Bool) : PV → PV → (Bool → Prop) → Prop
  | p, .dic kvs, k => (match keyP p with
    | some y => k (if neg then !(dgetP kvs y).isSome else (dgetP kvs y).isSome)
    | none => False)
  | p, .lst xs, k => (okP p = true ∧ dpP p ≤ 62 ∧ (∀ x ∈ xs, okP x = true ∧ cpP x p = true ∧ dpP x ≤ 61)) ∧ k (if neg then !decide (p ∈ xs) else decide (p ∈ xs))
  | .str x, .str z, k => ∃ c, x = ⟨#[c]⟩ ∧ k (if neg then !decide (c ∈ z.cps.toList) else decide (c ∈ z.cps.toList))
  | .str x, .tup ts, k => ∃ ss : List Str, ts = ss.map PV.str ∧ k (if neg then !decide (x ∈ ss) else decide (x ∈ ss))
  | _, _, _ => False
theorem okL_iff : ∀ {ts : List PV}, okL ts = true ↔ ∀ t ∈ ts, okP t = true
  | [] => by simp [okL]
  | t :: ts => by simp [okL, okL_iff (ts := ts)]
theorem dpL_le : ∀ {ts : List PV} {n : Nat}, (∀ t ∈ ts, dpP t ≤ n) → dpL ts ≤ n
  | [], _, _ => by simp [dpL]
  | t :: ts, n, h => by
    have h1 := h t (by simp)
    have h2 := dpL_le (ts := ts) (n := n) fun u hu => h u (by simp [hu])
    simp [dpL]; omega
theorem any_mem {p : PV} (hp : okP p = true) : ∀ {xs : List PV}, (∀ x ∈ xs, okP x = true ∧ cpP x p = true ∧ dpP x ≤ 61) → ((pvdL xs).any fun z => PyData.eqv z (pvd p)) = decide (p ∈ xs)
  | [], _ => by simp [pvdL]
  | x :: xs, h => by
    have hx := h x (by simp)
    rw [pvdL, List.any_cons, any_mem hp (fun y hy => h y (by simp [hy])), eqv_pv x p hx.1 hp hx.2.1]
    by_cases e : p = x
    · subst e; simp
    · have e2 : ¬ x = p := fun z => e z.symm
      simp [e, e2]
theorem RpL.strs {F : Gp} : ∀ {ts : List T} {ss : List Str}, RpL F ts (ss.map PV.str) → ts = ss.map T.str
  | [], [], _ => rfl
  | v :: vs, s :: ss, h => by
    rw [List.map_cons] at h
    cases h with
    | cons h1 h2 =>
      cases h1
      rw [List.map_cons, RpL.strs h2]
  | [], _ :: _, h => by rw [List.map_cons] at h; cases h
  | _ :: _, [], h => by cases h
theorem ob_in {neg : Bool} : OpB (inT neg) (inB neg) := fun F G t u p q Ψ Φ s rt ru hh k => by
  cases q with
  | dic kvs =>
    obtain ⟨a, ts, rfl, h1, h2⟩ := ru
    have hh : (match keyP p with
      | some y => Ψ (if neg then !(dgetP kvs y).isSome else (dgetP kvs y).isSome)
      | none => False) := by cases p <;> exact hh
    split at hh
    · rename_i y ey
      obtain ⟨rfl, kt⟩ := keyP_T (rt.rp s) ey
      have e : (dlook ts (kT y)).isSome = (dgetP kvs y).isSome := by
        rcases h2.look (k := y) with ⟨e1, e2⟩ | ⟨t, p, e1, e2, _⟩ <;> rw [e1, e2] <;> rfl
      have fin : Φ (.bl (if neg then !(dlook ts (kT y)).isSome else (dlook ts (kT y)).isSome)) G := by rw [e]; exact k _ hh
      rcases dicAt_or h1 with h1 | ⟨ob, raw, h1⟩
      · have : inT neg (kT y) (.ref a) G Φ = (match keyT (kT y) with
          | some _ => Φ (.bl (if neg then !(dlook ts (kT y)).isSome else (dlook ts (kT y)).isSome)) G
          | none => False) := by cases y <;> simp only [kT, inT, h1] <;> rfl
        rw [this, kt]
        exact fin
      · have : inT neg (kT y) (.ref a) G Φ = (match keyT (kT y) with
          | some _ => Φ (.bl (if neg then !(dlook ts (kT y)).isSome else (dlook ts (kT y)).isSome)) G
          | none => False) := by cases y <;> simp only [kT, inT, h1] <;> rfl
        rw [this, kt]
        exact fin
    · exact hh.elim
  | lst xs =>
    have hh : (okP p = true ∧ dpP p ≤ 62 ∧ (∀ x ∈ xs, okP x = true ∧ cpP x p = true ∧ dpP x ≤ 61)) ∧ Ψ (if neg then !decide (p ∈ xs) else decide (p ∈ xs)) := by cases p <;> exact hh
    obtain ⟨⟨h1, h2, h3⟩, hh⟩ := hh
    have ru2 := ru.rp s
    obtain ⟨a, ts, rfl, h4, _⟩ := ru
    obtain ⟨d1, c1, e1⟩ := ok_dat h1 (rt.rp s)
    have hq : okP (.lst xs) = true := by rw [okP]; exact okL_iff.mpr fun x hx => (h3 x hx).1
    obtain ⟨d2, c2, e2⟩ := ok_dat hq ru2
    have hd : dpP (.lst xs) ≤ 62 := by rw [dpP]; have := dpL_le fun x hx => (h3 x hx).2.2; omega
    have goal : ∃ d ds, Dat G t d ∧ Dat G (.ref a) (.list ds) ∧ SeqAt.shaped d = true ∧ SeqAt.shaped (.list ds) = true ∧ Φ (.bl (if neg then !ds.any fun z => PyData.eqv z d else ds.any fun z => PyData.eqv z d)) G := by
      refine ⟨pvd p, pvdL xs, d1, by simpa [pvd] using d2, shaped_of c1 (by rw [e1]; omega), shaped_of (by simpa [pvd] using c2) (by have := e2; simp only [pvd] at this; rw [this]; omega), ?_⟩
      rw [any_mem h1 h3]
      exact k _ hh
    have : inT neg t (.ref a) G Φ = ∃ d ds, Dat G t d ∧ Dat G (.ref a) (.list ds) ∧ SeqAt.shaped d = true ∧ SeqAt.shaped (.list ds) = true ∧ Φ (.bl (if neg then !ds.any fun z => PyData.eqv z d else ds.any fun z => PyData.eqv z d)) G := by
      cases t <;> simp only [inT, h4]
    rw [this]
    exact goal
  | str z =>
    cases p with
    | str x =>
      cases rt; cases ru
      obtain ⟨c, rfl, hh⟩ := hh
      exact ⟨c, rfl, k _ hh⟩
    | _ => exact hh.elim
  | tup xs =>
    cases p with
    | str x =>
      obtain ⟨ts, rfl, r⟩ := ru
      cases rt
      obtain ⟨ss, rfl, hh⟩ := hh
      have e := r.strs
      subst e
      exact ⟨ss, rfl, k _ hh⟩
    | _ => exact hh.elim
  | _ => cases p <;> exact hh.elim
/-! arithmetic -/
def addP : PV → PV → (Cell → Prop) → Prop
  | .int i, .int j, k => k (.fr (.int (i + j)))
  | .str a, .str b, k => a.length + b.length ≤ sizeLine ∧ k (.fr (.str (a ++ b)))
  | .tup xs, .tup ys, k => xs.length + ys.length ≤ sizeLine ∧ k (.fr (.tup (xs ++ ys)))
  | .lst xs, .lst ys, k => xs.length + ys.length ≤ sizeLine ∧ k (.ow (.lst (xs ++ ys)))
  | _, _, _ => False
theorem ov_add : OpV addT addP := fun F G t u p q Ψ Φ s rt ru hh k => by
  cases p with
  | int i =>
    cases q with
    | int j => cases rt; cases ru; exact k _ _ _ nil0 hh .no (.int _)
    | _ => exact hh.elim
  | str i =>
    cases q with
    | str j => cases rt; cases ru; exact ⟨hh.1, k _ _ _ nil0 hh.2 .no (.str _)⟩
    | _ => exact hh.elim
  | tup xs =>
    cases q with
    | tup ys =>
      obtain ⟨ts, rfl, r⟩ := rt
      obtain ⟨us, rfl, r2⟩ := ru
      exact ⟨by rw [r.length, r2.length]; exact hh.1, k _ _ _ nil0 hh.2 .no (.tup (r.app r2))⟩
    | _ => exact hh.elim
  | lst xs =>
    cases q with
    | lst ys =>
      obtain ⟨a, ts, rfl, h1, r⟩ := rt
      obtain ⟨b, us, rfl, h2, r2⟩ := ru
      simp only [addT, h1, h2]
      exact ⟨by rw [List.length_append, r.length, r2.length]; exact hh.1, fun p hp => k _ _ _ _ hh.2 (Fresh.new hp) ⟨p, _, rfl, rfl, r.app r2⟩⟩
    | _ => exact hh.elim
  | _ => cases q <;> exact hh.elim
def intP (C : Int → Int → Prop) (f : Int → Int → Int) : PV → PV → (Cell → Prop) → Prop
  | .int i, .int j, k => C i j ∧ k (.fr (.int (f i j)))
  | _, _, _ => False
theorem ov_int {C : Int → Int → Prop} {f : Int → Int → Int} : OpV (intT C fun i j => .int (f i j)) (intP C f) := fun F G t u p q Ψ Φ s rt ru hh k => by
  cases p with
  | int i =>
    cases q with
    | int j => cases rt; cases ru; exact ⟨hh.1, k _ _ _ nil0 hh.2 .no (.int _)⟩
    | _ => exact hh.elim
  | _ => cases q <;> exact hh.elim
def mulP : PV → PV → (Cell → Prop) → Prop
  | .int i, .int j, k => CMul i j ∧ k (.fr (.int (i * j)))
  | .lst xs, .int n, k => 0 ≤ n ∧ n ≤ 1000 ∧ (List.replicate n.toNat xs).flatten.length ≤ sizeLine ∧ k (.ow (.lst (List.replicate n.toNat xs).flatten))
  | _, _, _ => False
theorem ov_mul : OpV mulT mulP := fun F G t u p q Ψ Φ s rt ru hh k => by
  cases p with
  | int i =>
    cases q with
    | int j => cases rt; cases ru; exact ⟨hh.1, k _ _ _ nil0 hh.2 .no (.int _)⟩
    | _ => exact hh.elim
  | lst xs =>
    cases q with
    | int n =>
      obtain ⟨a, ts, rfl, h1, r⟩ := rt
      cases ru
      simp only [mulT, h1]
      exact ⟨hh.1, hh.2.1, by rw [(r.rep n.toNat).length]; exact hh.2.2.1, fun p hp => k _ _ _ _ hh.2.2.2 (Fresh.new hp) ⟨p, _, rfl, rfl, r.rep _⟩⟩
    | _ => exact hh.elim
  | _ => cases q <;> exact hh.elim
/-! subscripts -/
def ixP : PV → PV → (Cell → Prop) → Prop
  | .tup xs, .int i, k => (match atI xs i with
    | some p => k (.fr p)
    | none => False)
  | .lst xs, .int i, k => (match atI xs i with
    | some p => k (.fr p)
    | none => False)
  | .str z, .int i, k => z.length ≤ sizeLine ∧ (match atI z.cps.toList i with
    | some c => k (.fr (.str ⟨#[c]⟩))
    | none => False)
  | .dic kvs, q, k => (match keyP q with
    | some y => (match dgetP kvs y with
      | some p => k (.fr p)
      | none => False)
    | none => False)
  | _, _, _ => False
theorem RpL.at {F : Gp} {ts : List T} {ps : List PV} {i : Int} {p : PV} (r : RpL F ts ps) (h : atI ps i = some p) : ∃ t, atI ts i = some t ∧ Rp F t p := by
  unfold atI at h ⊢
  rw [r.length]
  cases q : ixN ps.length i with
  | none => rw [q] at h; cases h
  | some j =>
    rw [q] at h
    exact r.get h
theorem ov_ix : OpV ixT ixP := fun F G t u p q Ψ Φ s rt ru hh k => by
  cases p with
  | tup xs =>
    cases q with
    | int i =>
      obtain ⟨ts, rfl, r⟩ := rt
      cases ru
      simp only [ixP] at hh
      split at hh
      · rename_i p e
        obtain ⟨t, e1, e2⟩ := r.at e
        simp only [ixT, e1]
        exact k _ _ _ nil0 hh .no e2
      · exact hh.elim
    | _ => exact hh.elim
  | lst xs =>
    cases q with
    | int i =>
      obtain ⟨a, ts, rfl, h1, r⟩ := rt
      cases ru
      simp only [ixP] at hh
      split at hh
      · rename_i p e
        obtain ⟨t, e1, e2⟩ := r.at e
        simp only [ixT, h1, e1]
        exact k _ _ _ nil0 hh .no e2
      · exact hh.elim
    | _ => exact hh.elim
  | str z =>
    cases q with
    | int i =>
      cases rt; cases ru
      simp only [ixP] at hh
      obtain ⟨h0, hh⟩ := hh
      split at hh
      · rename_i c e
        simp only [ixT, e]
        exact ⟨h0, k _ _ _ nil0 hh .no (.str _)⟩
      · exact hh.elim
    | _ => exact hh.elim
  | dic kvs =>
    obtain ⟨a, ts, rfl, h1, r⟩ := rt
    simp only [ixP] at hh
    split at hh
    · rename_i y ey
      obtain ⟨rfl, kt⟩ := keyP_T (ru.rp s) ey
      split at hh
      · rename_i p ep
        rcases r.look (k := y) with ⟨_, e2⟩ | ⟨t, p', e1, e2, e3⟩
        · rw [e2] at ep; cases ep
        · rw [e2] at ep
          cases ep
          have fin := k _ t _ nil0 hh .no e3
          rcases dicAt_or h1 with h1 | ⟨ob, raw, h1⟩
          · simp only [ixT, h1, kt, e1]; exact fin
          · simp only [ixT, h1, kt, e1]; exact fin
      · exact hh.elim
    · exact hh.elim
  | _ => cases q <;> exact hh.elim
/-! ### built-ins -/
def lenP : List PV → (Cell → Prop) → Prop
  | [.str s], k => s.length ≤ sizeLine ∧ k (.fr (.int (s.length : Int)))
  | [.tup xs], k => k (.fr (.int (xs.length : Int)))
  | [.lst xs], k => k (.fr (.int (xs.length : Int)))
  | [.dic xs], k => k (.fr (.int (xs.length : Int)))
  | _, _ => False
theorem RdL.one {F G : Gp} {ts : List T} {p : PV} (h : RdL F G ts [p]) : ∃ t, ts = [t] ∧ RdR F G t p := by
  match ts, h with
  | [t], h => exact ⟨t, rfl, h.1⟩
theorem RdL.two {F G : Gp} {ts : List T} {p q : PV} (h : RdL F G ts [p, q]) : ∃ t u, ts = [t, u] ∧ RdR F G t p ∧ RdR F G u q := by
  match ts, h with
  | [t, u], h => exact ⟨t, u, rfl, h.1, h.2.1⟩
theorem cv_len : CbV lenT lenP := fun F G ts ps Ψ Φ s r hh k => by
  match ps, hh with
  | [.str x], hh => obtain ⟨t, rfl, r'⟩ := r.one; cases r'; exact ⟨hh.1, k _ _ _ nil0 hh.2 .no (.int _)⟩
  | [.tup xs], hh => obtain ⟨t, rfl, us, rfl, r'⟩ := r.one; simp only [lenT]; rw [r'.length]; exact k _ _ _ nil0 hh .no (.int _)
  | [.lst xs], hh => obtain ⟨t, rfl, a, us, rfl, h1, r'⟩ := r.one; simp only [lenT, h1]; rw [r'.length]; exact k _ _ _ nil0 hh .no (.int _)
  | [.dic xs], hh =>
    obtain ⟨t, rfl, a, us, rfl, h1, r'⟩ := r.one
    rcases dicAt_or h1 with h1 | ⟨ob, raw, h1⟩
    · simp only [lenT, h1]; rw [r'.length]; exact k _ _ _ nil0 hh .no (.int _)
    · simp only [lenT, h1]; rw [r'.length]; exact k _ _ _ nil0 hh .no (.int _)
def absP : List PV → (Cell → Prop) → Prop
  | [.int i], k => k (.fr (.int (if i < 0 then -i else i)))
  | _, _ => False
theorem cv_abs : CbV absT absP := fun F G ts ps Ψ Φ s r hh k => by
  match ps, hh with
  | [.int x], hh => obtain ⟨t, rfl, r'⟩ := r.one; cases r'; exact k _ _ _ nil0 hh .no (.int _)
def intCP : List PV → (Cell → Prop) → Prop
  | [.int i], k => k (.fr (.int i))
  | [.bl b], k => k (.fr (.int (if b then 1 else 0)))
  | _, _ => False
theorem cv_int : CbV intCT intCP := fun F G ts ps Ψ Φ s r hh k => by
  match ps, hh with
  | [.int x], hh => obtain ⟨t, rfl, r'⟩ := r.one; cases r'; exact k _ _ _ nil0 hh .no (.int _)
  | [.bl x], hh => obtain ⟨t, rfl, r'⟩ := r.one; cases r'; exact k _ _ _ nil0 hh .no (.int _)
def listP : List PV → (Cell → Prop) → Prop
  | [.tup xs], k => k (.ow (.lst xs))
  | [.lst xs], k => k (.ow (.lst xs))
  | _, _ => False
theorem cv_list : CbV listT listP := fun F G ts ps Ψ Φ s r hh k => by
  match ps, hh with
  | [.tup xs], hh => obtain ⟨t, rfl, us, rfl, r'⟩ := r.one; exact fun p hp => k _ _ _ _ hh (Fresh.new hp) ⟨p, _, rfl, rfl, r'⟩
  | [.lst xs], hh => obtain ⟨t, rfl, a, us, rfl, h1, r'⟩ := r.one; simp only [listT, h1]; exact fun p hp => k _ _ _ _ hh (Fresh.new hp) ⟨p, _, rfl, rfl, r'⟩
def tupP : List PV → (Cell → Prop) → Prop
  | [.tup xs], k => k (.fr (.tup xs))
  | [.lst xs], k => k (.fr (.tup xs))
  | _, _ => False
theorem cv_tup : CbV tupCT tupP := fun F G ts ps Ψ Φ s r hh k => by
  match ps, hh with
  | [.tup xs], hh => obtain ⟨t, rfl, us, rfl, r'⟩ := r.one; exact k _ _ _ nil0 hh .no (.tup r')
  | [.lst xs], hh => obtain ⟨t, rfl, a, us, rfl, h1, r'⟩ := r.one; simp only [tupCT, h1]; exact k _ _ _ nil0 hh .no (.tup r')
theorem strs_rp {F : Gp} : ∀ ss : List Str, RpL F (ss.map T.str) (ss.map PV.str)
  | [] => .nil
  | s :: ss => .cons (.str s) (strs_rp ss)
def sortP : List PV → (Cell → Prop) → Prop
  | [.lst xs], k => ∃ ss : List Str, xs = ss.map PV.str ∧ ss.length < 64 ∧ ∀ ys, ys.Perm ss → PyProof.Rows.sortedS ys = true → k (.ow (.lst (ys.map PV.str)))
  | [.dic kvs], k => ∃ ss : List Str, kvs.map (·.1) = ss.map Sum.inr ∧ ss.length < 64 ∧ ∀ ys, ys.Perm ss → PyProof.Rows.sortedS ys = true → k (.ow (.lst (ys.map PV.str)))
  | _, _ => False
theorem cv_sorted : CbV sortT sortP := fun F G ts ps Ψ Φ s r hh k => by
  match ps, hh with
  | [.lst xs], hh =>
    obtain ⟨t, rfl, a, us, rfl, h1, r'⟩ := r.one
    obtain ⟨ss, rfl, hl, hh⟩ := hh
    have e := r'.strs
    subst e
    simp only [sortT, h1]
    exact ⟨ss, rfl, hl, fun ys p h2 h3 hp => k _ _ _ _ (hh ys h2 h3) (Fresh.new hp) ⟨p, _, rfl, rfl, strs_rp ys⟩⟩
  | [.dic kvs], hh =>
    obtain ⟨t, rfl, a, us, rfl, h1, r'⟩ := r.one
    obtain ⟨ss, e, hl, hh⟩ := hh
    have ek : us.map (·.1) = ss.map T.str := by
      rw [r'.keys]
      have : (kvs.map fun kv => kT kv.1) = (kvs.map (·.1)).map kT := by rw [List.map_map]; rfl
      rw [this, e, List.map_map]
      rfl
    rcases dicAt_or h1 with h1 | ⟨ob, raw, h1⟩
    · simp only [sortT, h1]
      exact ⟨ss, ek, hl, fun ys p h2 h3 hp => k _ _ _ _ (hh ys h2 h3) (Fresh.new hp) ⟨p, _, rfl, rfl, strs_rp ys⟩⟩
    · simp only [sortT, h1]
      exact ⟨ss, ek, hl, fun ys p h2 h3 hp => k _ _ _ _ (hh ys h2 h3) (Fresh.new hp) ⟨p, _, rfl, rfl, strs_rp ys⟩⟩
def pairsP : List PV → Option (List (Key × PV))
  | [] => some []
  | .tup [y, v] :: r => (match keyP y, pairsP r with
    | some y, some ps => some ((y, v) :: ps)
    | _, _ => none)
  | _ => none
def dmergeP (kvs more : List (Key × PV)) : List (Key × PV) := more.foldl (fun acc kv => dputP acc kv.1 kv.2) kvs
theorem RpD.merge {F : Gp} {ms : List (T × T)} {ns : List (Key × PV)} (m : RpD F ms ns) : ∀ {vs : List (T × T)} {ts : List (Key × PV)}, RpD F vs ts → RpD F (dmerge vs ms) (dmergeP ts ns) := by
  induction ms generalizing ns with
  | nil => cases m; intro vs ts r; exact r
  | cons h hs ih =>
    cases m with
    | cons h1 h2 => intro vs ts r; exact ih h2 (r.put h1)
theorem pairs_rp {F : Gp} : ∀ {xs : List PV} {ts : List T} {ps : List (Key × PV)}, RpL F ts xs → pairsP xs = some ps → ∃ us, pairsT ts = some us ∧ RpD F us ps
  | [], _, _, .nil, e => by cases e; exact ⟨[], rfl, .nil⟩
  | .tup [y, v] :: r, _, ps, .cons h hs, e => by
    simp only [pairsP] at e
    split at e
    · rename_i y' ps' ey ep
      cases e
      cases h with
      | tup h =>
        cases h with
        | cons h1 h2 =>
          cases h2 with
          | cons h2 h3 =>
            cases h3
            obtain ⟨us, e1, e2⟩ := pairs_rp hs ep
            obtain ⟨rfl, kt⟩ := keyP_T h1 ey
            exact ⟨_, by simp only [pairsT, kt, e1], .cons h2 e2⟩
    · cases e
def dictP : List PV → (Cell → Prop) → Prop
  | [.lst xs], k => (match pairsP xs with
    | some ps => k (.ow (.dic (dmergeP [] ps)))
    | none => False)
  | [.dic kvs], k => k (.ow (.dic kvs))
  | _, _ => False
theorem cv_dict : CbV dictT dictP := fun F G ts ps Ψ Φ s r hh k => by
  match ps, hh with
  | [.lst xs], hh =>
    obtain ⟨t, rfl, a, us, rfl, h1, r'⟩ := r.one
    simp only [dictP] at hh
    split at hh
    · rename_i ps e
      obtain ⟨vs, e1, e2⟩ := pairs_rp r' e
      simp only [dictT, h1, e1]
      exact fun p hp => k _ _ _ _ hh (Fresh.new hp) ⟨p, _, rfl, rfl, e2.merge .nil⟩
    · exact hh.elim
  | [.dic kvs], hh =>
    obtain ⟨t, rfl, a, us, rfl, h1, r'⟩ := r.one
    rcases dicAt_or h1 with h1 | ⟨ob, raw, h1⟩
    · simp only [dictT, h1]; exact fun p hp => k _ _ _ _ hh (Fresh.new hp) ⟨p, _, rfl, rfl, r'⟩
    · simp only [dictT, h1]; exact fun p hp => k _ _ _ _ hh (Fresh.new hp) ⟨p, _, rfl, rfl, r'⟩
def isiP : List PV → (Cell → Prop) → Prop
  | [p, .ty n], k => n ∈ tysS ∧ (match tyP p with
    | some m => k (.fr (.bl (subS m n)))
    | none => False)
  | _, _ => False
theorem cv_isi : CbV isiT isiP := fun F G ts ps Ψ Φ s r hh k => by
  match ps, hh with
  | [p, .ty n], hh =>
    obtain ⟨t, u, rfl, r1, r2⟩ := r.two
    cases r2
    obtain ⟨h1, hh⟩ := hh
    refine ⟨h1, ?_⟩
    split at hh
    · rename_i m e
      rw [tyP_ok r1 e]
      exact k _ _ _ nil0 hh .no (.bl _)
    · exact hh.elim
end Vl
namespace Vl
open PySem L2 Dv
/-! ### statements -/
structure VEnds where
  nx : SV → Prop
  rt : RV → SV → Prop
  bk : SV → Prop := fun _ => False
  ct : SV → Prop := fun _ => False
abbrev VS := VEnds → SV → Prop
structure VOk (fx : Fx) (F : Gp) (VL : VEnds) (L : LEnds) : Prop where
  nx : ∀ S' G' σ' F' own', VL.nx σ' → Ext F F' → VRel fx F' own' S' G' σ' → L.nx S' G'
  rt : ∀ r σ' F' own' S' G' t, VL.rt r σ' → Ext F F' → VRel fx F' own' S' G' σ' → RvR fx F' own' S' G' t r → L.rt t G'
  bk : ∀ S' G' σ' F' own', VL.bk σ' → Ext F F' → VRel fx F' own' S' G' σ' → L.bk S' G'
  ct : ∀ S' G' σ' F' own', VL.ct σ' → Ext F F' → VRel fx F' own' S' G' σ' → L.ct S' G'
theorem VOk.step {fx : Fx} {F F1 : Gp} {VL : VEnds} {L : LEnds} (e : VOk fx F VL L) (x : Ext F F1) : VOk fx F1 VL L :=
  ⟨fun S G σ F' o' a b c => e.nx S G σ F' o' a (x.trans b) c, fun r σ F' o' S G t a b c d => e.rt r σ F' o' S G t a (x.trans b) c d, fun S G σ F' o' a b c => e.bk S G σ F' o' a (x.trans b) c, fun S G σ F' o' a b c => e.ct S G σ F' o' a (x.trans b) c⟩
def lowVS (N : Nat) (io : List Nat) (vs : VS) : LS := fun L S G => ∃ w F own σ VL, VRel (fxo N io w) F own S G σ ∧ vs VL σ ∧ VOk (fxo N io w) F VL L
def Evs (en : En) (X : Cx) (io : List Nat) (s : Stmt) (vs : VS) : Prop := Es en X s (lowVS X.N.length io vs)
def Evss (en : En) (X : Cx) (io : List Nat) (s : List Stmt) (vs : VS) : Prop := Ess en X s (lowVS X.N.length io vs)
section
variable {en : En} {X : Cx} {io : List Nat} {a b c e o tg iter : Expr} {es ifs : List Expr} {st : Stmt} {ss ss2 : List Stmt} {va vb vc : VE} {vt : VT} {vs ws : VS} {pos : Pos}
theorem weakS {l l' : LS} (h : Es en X st l) (w : ∀ L S G, l' L S G → l L S G) : Es en X st l' := PS.weak h fun D σ H ⟨S, G, L, s, g, q, e⟩ => ⟨S, G, L, s, g, w L S G q, e⟩
theorem weakSs {l l' : LS} (h : Ess en X ss l) (w : ∀ L S G, l' L S G → l L S G) : Ess en X ss l' := PSs.weak h fun D σ H ⟨S, G, L, s, g, q, e⟩ => ⟨S, G, L, s, g, w L S G q, e⟩
def vNext : VS := fun L σ => L.nx σ
def vSeq (a b : VS) : VS := fun L σ => a ⟨fun σ' => b L σ', L.rt, L.bk, L.ct⟩ σ
def vDrop (va : VE) : VS := fun L σ => va σ fun _ σ1 => L.nx σ1
def vRet (va : VE) : VS := fun L σ => va σ L.rt
def vRetN : VS := fun L σ => L.rt (.v (.fr .non)) σ
def vIfS (c : VT) (a b : VS) : VS := fun L σ => c σ fun k σ1 => if k = true then a L σ1 else b L σ1
def vBreak : VS := fun L σ => L.bk σ
def vCont : VS := fun L σ => L.ct σ
def vNever : VS := fun _ _ => False
theorem evss_nil : Evss en X io [] vNext := weakSs es_nil fun L S G ⟨w, F, own, σ, VL, g, q, k⟩ => k.nx _ _ _ _ _ q .refl g
theorem evs_pass : Evs en X io (.Pass pos) vNext := weakS s_pass fun L S G ⟨w, F, own, σ, VL, g, q, k⟩ => k.nx _ _ _ _ _ q .refl g
theorem evs_doc {x : Str} {j : Nat} {p : Pos} : Evs en X io (.Expr (.Constant (.str x) j p) pos) vNext := weakS s_doc fun L S G ⟨w, F, own, σ, VL, g, q, k⟩ => k.nx _ _ _ _ _ q .refl g
theorem evs_never : Evs en X io st vNever := weakS s_never fun L S G ⟨w, F, own, σ, VL, g, q, k⟩ => q.elim
theorem evs_break : Evs en X io (.Break pos) vBreak := weakS s_break fun L S G ⟨w, F, own, σ, VL, g, q, k⟩ => k.bk _ _ _ _ _ q .refl g
theorem evs_cont : Evs en X io (.Continue pos) vCont := weakS s_cont fun L S G ⟨w, F, own, σ, VL, g, q, k⟩ => k.ct _ _ _ _ _ q .refl g
theorem evss_one (h : Evs en X io st vs) : Evss en X io [st] vs := es_one h
theorem evss_cons (h : Evs en X io st vs) (hr : Evss en X io ss ws) : Evss en X io (st :: ss) (vSeq vs ws) := weakSs (es_cons h hr) fun L S G ⟨w, F, own, σ, VL, g, q, k⟩ =>
  ⟨w, F, own, σ, _, g, q, ⟨fun S' G' σ' F' own' q' x' g' => ⟨G', Sub.refl _, w, F', own', σ', VL, g', q', k.step x'⟩, k.rt, k.bk, k.ct⟩⟩
theorem evs_expr (h : Ev en X io e va) (hs : swapsWith e none pos.line X.env = pure false := by rfl) : Evs en X io (.Expr e pos) (vDrop va) := weakS (s_expr h hs) fun L S G ⟨w, F, own, σ, VL, g, q, k⟩ =>
  ⟨w, F, own, σ, _, g, q, fun r σ1 F1 own1 G1 t q1 x1 g1 r1 => k.nx _ _ _ _ _ q1 x1 g1⟩
theorem evs_ret (h : Ev en X io e va) : Evs en X io (.Return (some e) pos) (vRet va) := weakS (s_ret h) fun L S G ⟨w, F, own, σ, VL, g, q, k⟩ =>
  ⟨w, F, own, σ, _, g, q, fun r σ1 F1 own1 G1 t q1 x1 g1 r1 => k.rt _ _ _ _ _ _ _ q1 x1 g1 r1⟩
theorem evs_retN : Evs en X io (.Return none pos) vRetN := weakS s_retN fun L S G ⟨w, F, own, σ, VL, g, q, k⟩ => k.rt _ _ _ _ _ _ _ q .refl g ⟨nil0, .non, .nil⟩
theorem evs_if (hc : Evt en X io c vt) (ha : Evss en X io ss vs) (hb : Evss en X io ss2 ws) : Evs en X io (.If c ss ss2 pos) (vIfS vt vs ws) := weakS (s_if hc ha hb) fun L S G ⟨w, F, own, σ, VL, g, q, k⟩ => by
  refine ⟨w, F, own, σ, _, g, q, fun d σ1 F1 own1 G1 q1 x1 g1 => ?_⟩
  cases d with
  | true => exact ⟨w, F1, own1, σ1, VL, g1, q1, k.step x1⟩
  | false => exact ⟨w, F1, own1, σ1, VL, g1, q1, k.step x1⟩
/-! targets -/
def GV (N : Nat) (io : List Nat) (f : T → S2 → Option S2) (fv : PV → SV → Option SV) : Prop := ∀ w F own S G σ t p σ', VRel (fxo N io w) F own S G σ → Rp F t p → fv p σ = some σ' → ∃ S' own', f t S = some S' ∧ VRel (fxo N io w) F own' S' G σ'
def GVs (N : Nat) (io : List Nat) (f : List T → S2 → Option S2) (fv : List PV → SV → Option SV) : Prop := ∀ w F own S G σ t p σ', VRel (fxo N io w) F own S G σ → RpL F t p → fv p σ = some σ' → ∃ S' own', f t S = some S' ∧ VRel (fxo N io w) F own' S' G σ'
structure Egv (X : Cx) (io : List Nat) (tg : Expr) (f : T → S2 → Option S2) (fv : PV → SV → Option SV) (vs : List Nat) : Prop where
  eg : Eg X tg f vs
  gv : GV X.N.length io f fv
structure Egvs (X : Cx) (io : List Nat) (tg : List Expr) (f : List T → S2 → Option S2) (fv : List PV → SV → Option SV) (vs : List Nat) : Prop where
  eg : Egs X tg f vs
  gv : GVs X.N.length io f fv
def fvN (j : Nat) : PV → SV → Option SV := fun p σ => some (vset σ j (some (.fr p)))
def fvNil : List PV → SV → Option SV := fun ps σ => match ps with
  | [] => some σ
  | _ => none
def fvCons (f : PV → SV → Option SV) (r : List PV → SV → Option SV) : List PV → SV → Option SV := fun ps σ => match ps with
  | p :: ps => (match f p σ with
    | some σ' => r ps σ'
    | none => none)
  | [] => none
def fvT (n : Nat) (f : List PV → SV → Option SV) : PV → SV → Option SV := fun p σ => match p with
  | .tup ps => if ps.length = n then f ps σ else none
  | _ => none
theorem idx_lt {N : List Str} {j : Nat} {x : Str} (h : N[j]? = some x) : j < N.length := by
  rcases Nat.lt_or_ge j N.length with h1 | h1
  · exact h1
  · rw [List.getElem?_eq_none h1] at h; cases h
theorem gv_name {j : Nat} {x : Str} (hN : X.N.Nodup) (hi : X.N[j]? = some x) (hx : Loc X.env.scope x) (hf : X.fn x = true ∨ X.env.scope.names.lookup x = some .local := by first | exact .inl rfl | exact .inr rfl | assumption) (hio : j ∉ io := by decide) : Egv X io (.Name x pos) (gN j) (fvN j) [j] :=
  ⟨g_name hN hi hx hf, fun w F own S G σ t p σ' g r e => by
    cases e
    exact ⟨_, _, rfl, g.put (H := nil0) .nil (idx_lt hi) hio (c := .fr p) r⟩⟩
theorem gvs_nil : Egvs X io [] gNil2 fvNil [] := ⟨gs_nil, fun w F own S G σ t p σ' g r e => by
  cases r with
  | nil => cases e; exact ⟨_, own, rfl, g⟩
  | cons _ _ => cases e⟩
theorem gvs_cons {f : T → S2 → Option S2} {r : List T → S2 → Option S2} {fv : PV → SV → Option SV} {rv : List PV → SV → Option SV} {us ws : List Nat} (h : Egv X io e f fv us) (hr : Egvs X io es r rv ws)
    (he : (assignEach (e :: es) X.env).map (·.2) = assign e X.env :: (assignEach es X.env).map (·.2) := by rfl) : Egvs X io (e :: es) (gCons2 f r) (fvCons fv rv) (us ++ ws) :=
  ⟨gs_cons h.eg hr.eg he, fun w F own S G σ t p σ' g rp e => by
    cases rp with
    | nil => cases e
    | cons r1 r2 =>
      simp only [fvCons] at e
      split at e
      · rename_i σ1 e1
        obtain ⟨S1, own1, f1, g1⟩ := h.gv _ _ _ _ _ _ _ _ _ g r1 e1
        obtain ⟨S2, own2, f2, g2⟩ := hr.gv _ _ _ _ _ _ _ _ _ g1 r2 e
        exact ⟨S2, own2, by simp only [gCons2, f1]; exact f2, g2⟩
      · cases e⟩
theorem gv_tup {f : List T → S2 → Option S2} {fv : List PV → SV → Option SV} {us : List Nat} {n k : Nat} (hc : X.calm = true) (h : Egvs X io es f fv us)
    (hn : (assignEach es X.env).length = n := by rfl) (hst : (assignEach es X.env).findIdx? (·.1) = none := by rfl) : Egv X io (.Tuple es k pos) (gT n f) (fvT n fv) us :=
  ⟨g_tup hc h.eg hn hst, fun w F own S G σ t p σ' g rp e => by
    cases rp with
    | tup r =>
      simp only [fvT] at e
      split at e
      · rename_i hl
        obtain ⟨S1, own1, f1, g1⟩ := h.gv _ _ _ _ _ _ _ _ _ g r e
        exact ⟨S1, own1, by simp only [gT, if_pos (r.length.trans hl)]; exact f1, g1⟩
      · cases e
    | _ => cases e⟩
/-! assignments -/
def vSet (j : Nat) (va : VE) : VS := fun L σ => va σ fun r σ1 => match giv σ1 r with
  | some (c, σ2) => L.nx (vset σ2 j (some c))
  | none => False
theorem low_vSet {N : Nat} {j : Nat} (hj : j < N) (hio : j ∉ io) : ∀ L S G, lowVS N io (vSet j va) L S G → lAsg (lowV N io va) (gN j) L S G := fun L S G ⟨w, F, own, σ, VL, g, q, k⟩ => by
  refine ⟨w, F, own, σ, _, g, q, fun r σ1 F1 own1 G1 t q1 x1 g1 r1 => ?_⟩
  split at q1
  · rename_i c σ2 e
    obtain ⟨F2, own2, H, g2, x2, h1, h2⟩ := g1.giv r1 e
    exact k.nx _ _ _ _ _ q1 (x1.trans x2) (g2.put h2 hj hio h1)
  · exact q1.elim
theorem evs_set {j : Nat} {x : Str} {pos' : Pos} (hN : X.N.Nodup) (hi : X.N[j]? = some x) (hx : Loc X.env.scope x) (he : Ev en X io e va) (hs : swapsWith e (some (.Name x pos')) pos.line X.env = pure false := by rfl)
    (hf : X.fn x = true ∨ X.env.scope.names.lookup x = some .local := by first | exact .inl rfl | exact .inr rfl | assumption) (hio : j ∉ io := by decide) : Evs en X io (.Assign [.Name x pos'] e pos) (vSet j va) := weakS (s_set hN hi hx he hs hf) (low_vSet (idx_lt hi) hio)
def vAsg (va : VE) (fv : PV → SV → Option SV) : VS := fun L σ => va σ fun r σ1 => match tk σ1 r with
  | some (p, σ2) => (match fv p σ2 with
    | some σ3 => L.nx σ3
    | none => False)
  | none => False
theorem evs_asg {f : T → S2 → Option S2} {fv : PV → SV → Option SV} {us : List Nat} (he : Ev en X io e va) (hg : Egv X io o f fv us) (hs : swapsWithSole [o] e pos.line X.env = pure false := by rfl) (hw : swappedStores [o] e X.env = pure none := by rfl)
    (h1 : (assignEach [o] X.env).map (·.2) = [assign o X.env] := by rfl) : Evs en X io (.Assign [o] e pos) (vAsg va fv) := weakS (s_asg he hg.eg hs hw h1) fun L S G ⟨w, F, own, σ, VL, g, q, k⟩ => by
  refine ⟨w, F, own, σ, _, g, q, fun r σ1 F1 own1 G1 t q1 x1 g1 r1 => ?_⟩
  split at q1
  · rename_i p σ2 e
    obtain ⟨F2, own2, g2, x2, rp⟩ := g1.tk r1 e
    split at q1
    · rename_i σ3 e3
      obtain ⟨S3, own3, f3, g3⟩ := hg.gv _ _ _ _ _ _ _ _ _ g2 rp e3
      rw [f3]
      exact k.nx _ _ _ _ _ q1 (x1.trans x2) g3
    · exact q1.elim
  · exact q1.elim
/-- two names at once; what is made for the first one waits -/
def vPar (j k : Nat) (va vb : VE) : VS := fun L σ => va σ fun r1 σ1 => vb σ1 fun r2 σ2 => match giv σ2 r1 with
  | some (c1, σ3) => (match giv σ3 r2 with
    | some (c2, σ4) => L.nx (vset (vset σ4 j (some c1)) k (some c2))
    | none => False)
  | none => False
theorem evs_par {j k : Nat} {x y : Str} {px py pt : Pos} {kt k2 : Nat} {pt2 : Pos} (hc : X.calm = true) (hN : X.N.Nodup) (hi : X.N[j]? = some x) (hj : X.N[k]? = some y) (hij : j ≠ k)
    (hx : X.env.scope.names.lookup x = some .local) (hy : X.env.scope.names.lookup y = some .local) (ha : Ev en X io a va) (hb : Ev en X io b vb)
    (hw : swappedStores [.Tuple [.Name x px, .Name y py] kt pt] (.Tuple [a, b] k2 pt2) X.env = pure (some [x, y]))
    (hs : swapsWithSole [.Tuple [.Name x px, .Name y py] kt pt] (.Tuple [a, b] k2 pt2) pos.line X.env = pure false := by rfl) (hio : j ∉ io := by decide) (hio2 : k ∉ io := by decide)
    (hs1 : starEach [a, b] X.env = (false, eval a X.env) :: starEach [b] X.env := by rfl) (hs2 : starEach [b] X.env = (false, eval b X.env) :: starEach [] X.env := by rfl) : Evs en X io (.Assign [.Tuple [.Name x px, .Name y py] kt pt] (.Tuple [a, b] k2 pt2) pos) (vPar j k va vb) := by
  refine weakS (s_par hc hN hi hj hij hx hy (ea_cons ha (ea_cons hb ea_nil hs2) hs1) hw hs) fun L S G ⟨w, F, own, σ, VL, g, q, kk⟩ => ?_
  have fin : ∀ {F3 : Gp} {own3 : Nat → Gp} {S : S2} {G : Gp} {σ4 : SV} {c1 c2 : Cell} {t u : T} {H1 H2 : Gp}, VRel (fxo X.N.length io w) F3 own3 S G σ4 → CellR F3 H1 t c1 → CellR F3 H2 u c2 → Tmp (fxo X.N.length io w) F3 own3 G H1 → Tmp (fxo X.N.length io w) F3 own3 G H2 → (∀ a, H2 a ≠ none → H1 a = none) →
      ∃ own', VRel (fxo X.N.length io w) F3 own' ((S.set j (some t)).set k (some u)) G (vset (vset σ4 j (some c1)) k (some c2)) := by
    intro F3 own3 S G σ4 c1 c2 t u H1 H2 g3 c1r c2r m1 m2 hd
    have g4 := g3.put m1 (idx_lt hi) hio c1r
    exact ⟨_, g4.put (H := H2) ⟨m2.sub, m2.dF, fun a i e => by
      by_cases z : i = j
      · subst z; rw [oset_same]; exact hd a e
      · rw [oset_ne z]; exact m2.dO a i e⟩ (idx_lt hj) hio2 c2r⟩
  refine ⟨w, F, own, σ, _, g, q, fun r1 σ1 F1 own1 G1 t q1 x1 g1 rr1 => ?_⟩
  cases r1 with
  | v c1 =>
    obtain ⟨H1, c1r, m1⟩ := rr1
    refine ⟨⟨w.S0, uni w.Fr H1⟩, F1, own1, σ1, _, g1.hold m1, q1, fun r2 σ2 F2 own2 G2 u q2 x2 g2 rr2 => ?_⟩
    simp only [Vl.giv] at q2
    split at q2
    · rename_i c2 σ4 e4
      obtain ⟨F3, own3, H2, g3, x3, c2r, m2⟩ := g2.giv rr2 e4
      obtain ⟨g4, m1'⟩ := VRel.unhold (fx := fxo X.N.length io w) g3 fun a e => (m1.dF a e).2
      have hd : ∀ a, H2 a ≠ none → H1 a = none := fun a e => by
        cases z : H1 a with
        | none => rfl
        | some o =>
          have h1 := (m2.dF a e).2
          have h2 : uni w.Fr H1 a = some o := uni_at (fun z => (m1.dF a z).2) z
          rw [show (fxo X.N.length io ⟨w.S0, uni w.Fr H1⟩).Fr a = uni w.Fr H1 a from rfl, h2] at h1
          cases h1
      have m2' : Tmp (fxo X.N.length io w) F3 own3 G2 H2 := ⟨m2.sub, fun a e => ⟨(m2.dF a e).1, by
        cases z : w.Fr a with
        | none => exact z
        | some o =>
          have h1 := (m2.dF a e).2
          rw [show (fxo X.N.length io ⟨w.S0, uni w.Fr H1⟩).Fr a = uni w.Fr H1 a from rfl, sub_uni _ _ z] at h1
          cases h1⟩, m2.dO⟩
      obtain ⟨own', g5⟩ := fin g4 ((c1r.sub x2.sub).sub x3.sub) c2r m1' m2' hd
      exact kk.nx _ _ _ _ _ q2 ((x1.trans x2).trans x3) g5
    · exact q2.elim
  | sl i =>
    refine ⟨w, F1, own1, σ1, _, g1, q1, fun r2 σ2 F2 own2 G2 u q2 x2 g2 rr2 => ?_⟩
    split at q2
    · rename_i c1 σ3 e3
      split at q2
      · rename_i c2 σ4 e4
        have rr1 : RvR (fxo X.N.length io w) F2 own2 S G2 t (.sl i) := rr1
        cases r2 with
        | v c =>
          obtain ⟨H2, c2r, m2⟩ := rr2
          cases e4
          obtain ⟨g2', m2h⟩ : VRel (fxo X.N.length io ⟨w.S0, uni w.Fr H2⟩) F2 own2 S G2 σ2 ∧ True := ⟨g2.hold m2, trivial⟩
          obtain ⟨F3, own3, H1, g3, x3, c1r, m1⟩ := g2'.giv (r := .sl i) (t := t) rr1 e3
          obtain ⟨g4, m2'⟩ := VRel.unhold (fx := fxo X.N.length io w) g3 fun a e => (m2.dF a e).2
          have hd : ∀ a, H1 a ≠ none → H2 a = none := fun a e => by
            cases z : H2 a with
            | none => rfl
            | some o =>
              have h1 := (m1.dF a e).2
              have h2 : uni w.Fr H2 a = some o := uni_at (fun z => (m2.dF a z).2) z
              rw [show (fxo X.N.length io ⟨w.S0, uni w.Fr H2⟩).Fr a = uni w.Fr H2 a from rfl, h2] at h1
              cases h1
          have m1' : Tmp (fxo X.N.length io w) F3 own3 G2 H1 := ⟨m1.sub, fun a e => ⟨(m1.dF a e).1, by
            cases z : w.Fr a with
            | none => exact z
            | some o =>
              have h1 := (m1.dF a e).2
              rw [show (fxo X.N.length io ⟨w.S0, uni w.Fr H2⟩).Fr a = uni w.Fr H2 a from rfl, sub_uni _ _ z] at h1
              cases h1⟩, m1.dO⟩
          obtain ⟨own', g5⟩ := fin g4 c1r (c2r.sub x3.sub) m1' m2' fun a e => by
            cases z : H1 a with
            | none => rfl
            | some o => exact absurd (hd a (by rw [z]; simp)) e
          exact kk.nx _ _ _ _ _ q2 ((x1.trans x2).trans x3) g5
        | sl i2 =>
          obtain ⟨F3, own3, H1, g3, x3, c1r, m1⟩ := g2.giv rr1 e3
          obtain ⟨F4, own4, H2, g4, x4, c2r, m2⟩ := g3.giv (r := .sl i2) (t := u) rr2 e4
          have f1 : ∀ {σ σ' : SV} {i : Nat} {c : Cell}, Vl.giv σ (.sl i) = some (c, σ') → ∃ p, c = .fr p := by
            intro σ σ' i c e
            simp only [Vl.giv] at e
            split at e <;> cases e <;> exact ⟨_, rfl⟩
          obtain ⟨p1, rfl⟩ := f1 e3
          obtain ⟨p2, rfl⟩ := f1 e4
          obtain ⟨own', g5⟩ := fin (H1 := nil0) (H2 := nil0) g4 (c1 := .fr p1) (c2 := .fr p2) (Rp.sub c1r x4.sub) c2r .nil .nil fun a e => rfl
          exact kk.nx _ _ _ _ _ q2 (((x1.trans x2).trans x3).trans x4) g5
      · exact q2.elim
    · exact q2.elim
end
end Vl
namespace Vl
open PySem L2 Dv
/-! ### loops -/
abbrev VI := SV → (List PV → SV → Prop) → Prop
def lowVI (N : Nat) (io : List Nat) (vi : VI) : LI := fun S G Ψ => ∃ w F own σ Ψv, VRel (fxo N io w) F own S G σ ∧ vi σ Ψv ∧
  ∀ ps σ' F' own' G' ts Keep, Ψv ps σ' → Ext F F' → VRel (fxo N io w) F' own' S G' σ' → RpL F' ts ps → (∀ G'', Sub F' G'' → Keep G'') → Ψ ts Keep G'
def Evi (en : En) (X : Cx) (io : List Nat) (tg iter : Expr) (vi : VI) : Prop := Ei en X tg iter (lowVI X.N.length io vi)
section
variable {en : En} {X : Cx} {io : List Nat} {a b c e o tg iter elt kx vx : Expr} {es ifs : List Expr} {st : Stmt} {ss ss2 : List Stmt} {va vb vc te tk' tv : VE} {vt tt : VT} {vs ws : VS} {pos : Pos} {vi : VI} {f : T → S2 → Option S2} {fv : PV → SV → Option SV} {us : List Nat}
theorem weakI {l l' : LI} (h : Ei en X tg iter l) (w : ∀ S G Φ, l' S G Φ → l S G Φ) : Ei en X tg iter l' := PI.weak h fun σ H R ⟨S, G, Ψ, s, g, q, k⟩ => ⟨S, G, Ψ, s, g, w S G Ψ q, k⟩
def itP : PV → Option (List PV)
  | .tup ps => some ps
  | .lst ps => some ps
  | .str z => some (z.cps.toList.map fun c => PV.str ⟨#[c]⟩)
  | _ => none
def vIt (va : VE) : VI := fun σ Ψ => va σ fun r σ1 => match tk σ1 r with
  | some (p, σ2) => (match itP p with
    | some ps => Ψ ps σ2
    | none => False)
  | none => False
theorem chars_rp {F : Gp} : ∀ cs : List Nat, RpL F (cs.map fun c => T.str ⟨#[c]⟩) (cs.map fun c => PV.str ⟨#[c]⟩)
  | [] => .nil
  | c :: cs => .cons (.str _) (chars_rp cs)
theorem evi_val (h : Ev en X io e va) : Evi en X io tg e (vIt va) := weakI (i_val h) fun S G Φ ⟨w, F, own, σ, Ψ, g, q, k⟩ => by
  refine ⟨w, F, own, σ, _, g, q, fun r σ1 F1 own1 G1 t q1 x1 g1 r1 => ?_⟩
  split at q1
  · rename_i p σ2 e1
    obtain ⟨F2, own2, g2, x2, rp⟩ := g1.tk r1 e1
    split at q1
    · rename_i ps e2
      cases rp with
      | tup r => cases e2; exact k _ _ _ _ _ _ _ q1 (x1.trans x2) g2 r fun _ _ => trivial
      | str z => cases e2; exact k _ _ _ _ _ _ _ q1 (x1.trans x2) g2 (chars_rp _) fun _ _ => trivial
      | lst h r =>
        cases e2
        simp only [itT, g2.sub _ _ h]
        exact k _ _ _ _ _ _ _ q1 (x1.trans x2) g2 r fun G'' s => s _ _ h
      | _ => cases e2
    · exact q1.elim
  · exact q1.elim
def rgL (n : Nat) : List PV := (List.range n).map fun (i : Nat) => PV.int (i : Int)
def rgL2 (lo : Int) (n : Nat) : List PV := (List.range n).map fun (i : Nat) => PV.int (lo + (i : Int))
theorem ints_rp {F : Gp} {g : Nat → Int} : ∀ ns : List Nat, RpL F (ns.map fun i => T.int (g i)) (ns.map fun i => PV.int (g i))
  | [] => .nil
  | n :: ns => .cons (.int _) (ints_rp ns)
def vRg1 (va : VA) : VI := fun σ Ψ => va σ fun rs σ1 => match rdL σ1 rs with
  | some [.int j] => (-(2 ^ 62) ≤ j ∧ j < 2 ^ 62) ∧ Ψ (rgL j.toNat) σ1
  | _ => False
theorem RdL.ints1 {F G : Gp} {ts : List T} {i : Int} (h : RdL F G ts [.int i]) : ts = [.int i] := by
  obtain ⟨t, rfl, r⟩ := h.one
  cases r
  rfl
theorem RdL.ints2 {F G : Gp} {ts : List T} {i j : Int} (h : RdL F G ts [.int i, .int j]) : ts = [.int i, .int j] := by
  obtain ⟨t, u, rfl, r, r2⟩ := h.two
  cases r
  cases r2
  rfl
theorem evi_rg1 {va : VA} (he : ∀ l, Ea en X es l → Ei en X tg iter (lRg1 l)) (h : Eva en X io es va) : Evi en X io tg iter (vRg1 va) := weakI (he _ h) fun S G Φ ⟨w, F, own, σ, Ψ, g, q, k⟩ => by
  refine ⟨w, F, own, σ, _, g, q, fun rs σ1 F1 own1 G1 ts q1 x1 g1 r1 => ?_⟩
  split at q1
  · rename_i j e
    have e2 := (rdL_ok g1 r1 e).ints1
    subst e2
    exact ⟨q1.1, k _ _ _ _ _ _ _ q1.2 x1 g1 (ints_rp _) fun _ _ => trivial⟩
  · exact q1.elim
def vRg2 (va : VA) : VI := fun σ Ψ => va σ fun rs σ1 => match rdL σ1 rs with
  | some [.int lo, .int hi] => (-(2 ^ 62) ≤ lo ∧ lo < 2 ^ 62 ∧ -(2 ^ 62) ≤ hi ∧ hi < 2 ^ 62) ∧ Ψ (rgL2 lo (hi - lo).toNat) σ1
  | _ => False
theorem evi_rg2 {va : VA} (he : ∀ l, Ea en X es l → Ei en X tg iter (lRg2 l)) (h : Eva en X io es va) : Evi en X io tg iter (vRg2 va) := weakI (he _ h) fun S G Φ ⟨w, F, own, σ, Ψ, g, q, k⟩ => by
  refine ⟨w, F, own, σ, _, g, q, fun rs σ1 F1 own1 G1 ts q1 x1 g1 r1 => ?_⟩
  split at q1
  · rename_i lo hi e
    have e2 := (rdL_ok g1 r1 e).ints2
    subst e2
    exact ⟨q1.1, k _ _ _ _ _ _ _ q1.2 x1 g1 (ints_rp _) fun _ _ => trivial⟩
  · exact q1.elim
def enumP (xs : List PV) : List PV := xs.zipIdx.map fun q => PV.tup [.int (q.2 : Int), q.1]
def zipP (xs ys : List PV) : List PV := (xs.zip ys).map fun q => PV.tup [q.1, q.2]
theorem enum_rp {F : Gp} {ts : List T} {ps : List PV} (r : RpL F ts ps) : RpL F (enumT ts) (enumP ps) := by
  unfold enumT enumP
  have : ∀ (ts : List T) (ps : List PV) (n : Nat), RpL F ts ps → RpL F ((ts.zipIdx n).map fun q => T.tup [.int (q.2 : Int), q.1]) ((ps.zipIdx n).map fun q => PV.tup [.int (q.2 : Int), q.1]) := by
    intro ts
    induction ts with
    | nil => intro ps n r; cases r; exact .nil
    | cons t ts ih =>
      intro ps n r
      cases r with
      | cons h1 h2 => exact .cons (.tup (.cons (.int _) (.cons h1 .nil))) (ih _ _ h2)
  exact this _ _ 0 r
theorem zip_rp {F : Gp} : ∀ {ts us : List T} {ps qs : List PV}, RpL F ts ps → RpL F us qs → RpL F (zipT ts us) (zipP ps qs)
  | [], _, _, _, .nil, _ => by simp only [zipT, zipP, List.zip_nil_left, List.map_nil]; exact .nil
  | _ :: _, [], _, _, .cons _ _, .nil => by simp only [zipT, zipP, List.zip_nil_right, List.map_nil]; exact .nil
  | _ :: _, _ :: _, _, _, .cons h hs, .cons r rs => by
    have := zip_rp hs rs
    simp only [zipT, zipP, List.zip_cons_cons, List.map_cons] at this ⊢
    exact .cons (.tup (.cons h (.cons r .nil))) this
/-- enumerate, zip: what is walked is frozen -/
def vEnum (va : VA) : VI := fun σ Ψ => va σ fun rs σ1 => match tkL σ1 rs with
  | some ([.lst xs], σ2) => Ψ (enumP xs) σ2
  | _ => False
theorem evi_enum {va : VA} (he : ∀ l, Ea en X es l → Ei en X tg iter (lEnum l)) (h : Eva en X io es va) : Evi en X io tg iter (vEnum va) := weakI (he _ h) fun S G Φ ⟨w, F, own, σ, Ψ, g, q, k⟩ => by
  refine ⟨w, F, own, σ, _, g, q, fun rs σ1 F1 own1 G1 ts q1 x1 g1 r1 => ?_⟩
  split at q1
  · rename_i xs σ2 e
    obtain ⟨F2, own2, g2, x2, r⟩ := tkL_ok g1 r1 e
    cases r with
    | cons h1 h2 =>
      cases h2
      cases h1 with
      | lst hg r =>
        simp only [g2.sub _ _ hg]
        exact k _ _ _ _ _ _ _ q1 (x1.trans x2) g2 (enum_rp r) fun G'' s => s _ _ hg
  · exact q1.elim
def vZip (va : VA) : VI := fun σ Ψ => va σ fun rs σ1 => match tkL σ1 rs with
  | some ([.lst xs, .lst ys], σ2) => Ψ (zipP xs ys) σ2
  | some ([.tup xs, .tup ys], σ2) => Ψ (zipP xs ys) σ2
  | _ => False
theorem evi_zip {va : VA} (he : ∀ l, Ea en X es l → Ei en X tg iter (lZip l)) (h : Eva en X io es va) : Evi en X io tg iter (vZip va) := weakI (he _ h) fun S G Φ ⟨w, F, own, σ, Ψ, g, q, k⟩ => by
  refine ⟨w, F, own, σ, _, g, q, fun rs σ1 F1 own1 G1 ts q1 x1 g1 r1 => ?_⟩
  split at q1
  · rename_i xs ys σ2 e
    obtain ⟨F2, own2, g2, x2, r⟩ := tkL_ok g1 r1 e
    cases r with
    | cons h1 h2 =>
      cases h2 with
      | cons h2 h3 =>
        cases h3
        cases h1 with
        | lst hg r =>
          cases h2 with
          | lst hg2 r2 =>
            simp only [g2.sub _ _ hg, g2.sub _ _ hg2]
            exact k _ _ _ _ _ _ _ q1 (x1.trans x2) g2 (zip_rp r r2) fun G'' s => ⟨s _ _ hg, s _ _ hg2⟩
  · rename_i xs ys σ2 e
    obtain ⟨F2, own2, g2, x2, r⟩ := tkL_ok g1 r1 e
    cases r with
    | cons h1 h2 =>
      cases h2 with
      | cons h2 h3 =>
        cases h3
        cases h1 with
        | tup r =>
          cases h2 with
          | tup r2 => exact k _ _ _ _ _ _ _ q1 (x1.trans x2) g2 (zip_rp r r2) fun G'' s => trivial
  · exact q1.elim
/-! for -/
def forV (L : VEnds) (fv : PV → SV → Option SV) (b : VS) : List PV → SV → Prop
  | [], σ => L.nx σ
  | p :: r, σ => match fv p σ with
    | some σ' => b ⟨forV L fv b r, L.rt, L.nx, forV L fv b r⟩ σ'
    | none => False
def vFor (vi : VI) (fv : PV → SV → Option SV) (b : VS) : VS := fun L σ => vi σ fun ps σ1 => forV L fv b ps σ1
theorem low_forV {N : Nat} {w : Fq} {L : LEnds} (hg : GV N io f fv) {Keep : Gp → Prop} {VL : VEnds} : ∀ (ps : List PV) (ts : List T) (F : Gp) (own : Nat → Gp) (S : S2) (G : Gp) (σ : SV), VRel (fxo N io w) F own S G σ → RpL F ts ps → (∀ G'', Sub F G'' → Keep G'') → VOk (fxo N io w) F VL L → forV VL fv vs ps σ → forW L f (lowVS N io vs) Keep ts S G
  | [], _, F, own, S, G, σ, g, .nil, hk, ok, q => ⟨hk _ g.sub, ok.nx _ _ _ _ _ q .refl g⟩
  | p :: ps, _, F, own, S, G, σ, g, .cons r rs, hk, ok, q => by
    refine ⟨hk _ g.sub, ?_⟩
    simp only [forV] at q
    split at q
    · rename_i σ' e
      obtain ⟨S', own', f1, g1⟩ := hg _ _ _ _ _ _ _ _ _ g r e
      rw [f1]
      have again : ∀ S' G' σ' F' own', forV VL fv vs ps σ' → Ext F F' → VRel (fxo N io w) F' own' S' G' σ' → ∃ G0, Sub G0 G' ∧ forW L f (lowVS N io vs) Keep _ S' G0 :=
        fun S' G' σ' F' own' q' x' g' => ⟨G', Sub.refl _, low_forV hg ps _ F' own' S' G' σ' g' (rs.sub x'.sub) (fun G'' s => hk _ (x'.sub.trans s)) (ok.step x') q'⟩
      exact ⟨w, F, own', σ', _, g1, q, ⟨again, ok.rt, ok.nx, again⟩⟩
    · exact q.elim
theorem evs_for (hp : PassesOwn (model X.prog X.w) X.A X.env X.xe) (hc : X.calm = true) (hi : Evi en X io tg iter vi) (hg : Egv X io tg f fv us) (hb : Evss en X io ss vs)
    (hs : ∀ x, foldedSetIterable iter X.env x = pure x := by intro _; rfl) : Evs en X io (.For tg iter ss [] pos) (vFor vi fv vs) := weakS (s_for hp hc hi hg.eg hb hs) fun L S G ⟨w, F, own, σ, VL, g, q, k⟩ =>
  ⟨w, F, own, σ, _, g, q, fun ps σ' F' own' G' ts Keep q1 x1 g1 r1 hk => low_forV hg.gv ps ts F' own' S G' σ' g1 r1 hk (k.step x1) q1⟩
def vWhile (c : VT) (b : VS) : VS := fun L σ => ∃ W : Nat → SV → Prop, (∃ m, W m σ) ∧ ∀ m σ, W m σ → c σ fun k σ1 => if k = true then b ⟨fun σ' => ∃ m', m' < m ∧ W m' σ', L.rt, L.nx, fun σ' => ∃ m', m' < m ∧ W m' σ'⟩ σ1 else L.nx σ1
theorem evs_while (hp : PassesOwn (model X.prog X.w) X.A X.env X.xe) (hc : Evt en X io c vt) (hb : Evss en X io ss vs) : Evs en X io (.While c ss [] pos) (vWhile vt vs) := weakS (s_while hp hc hb) fun L S G ⟨w, F, own, σ, VL, g, ⟨W, ⟨m0, w0⟩, hW⟩, ok⟩ => by
  refine ⟨fun m S' G' => ∃ F' own' σ', VRel (fxo X.N.length io w) F' own' S' G' σ' ∧ Ext F F' ∧ W m σ', ⟨m0, F, own, σ, g, .refl, w0⟩, ?_⟩
  rintro m S1 G1 ⟨F1, own1, σ1, g1, x1, w1⟩
  refine ⟨w, F1, own1, σ1, _, g1, hW m σ1 w1, fun d σ2 F2 own2 G2 q2 x2 g2 => ⟨G2, Sub.refl _, ?_⟩⟩
  cases d with
  | false => exact ok.nx _ _ _ _ _ q2 (x1.trans x2) g2
  | true =>
    have again : ∀ S' G' σ' F' own', (∃ m', m' < m ∧ W m' σ') → Ext F2 F' → VRel (fxo X.N.length io w) F' own' S' G' σ' → ∃ m' G0, m' < m ∧ Sub G0 G' ∧ ∃ F' own' σ', VRel (fxo X.N.length io w) F' own' S' G0 σ' ∧ Ext F F' ∧ W m' σ' :=
      fun S' G' σ' F' own' ⟨m', h1, h2⟩ x' g' => ⟨m', G', h1, Sub.refl _, F', own', σ', g', (x1.trans x2).trans x', h2⟩
    exact ⟨w, F2, own2, σ2, _, g2, q2, ⟨again, (ok.step (x1.trans x2)).rt, (ok.step (x1.trans x2)).nx, again⟩⟩
/-! comprehensions -/
def vdel (σ : SV) : List Nat → SV
  | [] => σ
  | v :: vs => vset (vdel σ vs) v none
theorem VRel.dels {fx : Fx} {F : Gp} {own : Nat → Gp} {S : S2} {G : Gp} {σ : SV} (g : VRel fx F own S G σ) : ∀ us : List Nat, (∀ j ∈ us, j ∉ fx.io) → VRel fx F own (wipe2 S us) G (vdel σ us)
  | [], _ => g
  | v :: vs, h => (VRel.dels g vs fun j hj => h j (List.mem_cons_of_mem _ hj)).del (h v List.mem_cons_self)
theorem wipe2_ne {S : S2} : ∀ {us : List Nat} {i : Nat}, i ∉ us → (wipe2 S us)[i]? = S[i]?
  | [], _, _ => rfl
  | v :: vs, i, h => by
    show ((wipe2 S vs).set v none)[i]? = _
    rw [List.getElem?_set_ne (fun z => h (by rw [z]; exact List.mem_cons_self))]
    exact wipe2_ne fun z => h (List.mem_cons_of_mem _ z)
theorem vdel_in {σ : SV} : ∀ {us : List Nat} {i : Nat}, i ∈ us → vdel σ us i = none
  | v :: vs, i, h => by
    show (if i = v then none else vdel σ vs i) = none
    by_cases e : i = v
    · rw [if_pos e]
    · rw [if_neg e]; exact vdel_in ((List.mem_cons.mp h).resolve_left e)
theorem vdel_ne {σ : SV} : ∀ {us : List Nat} {i : Nat}, i ∉ us → vdel σ us i = σ i
  | [], _, _ => rfl
  | v :: vs, i, h => by
    show (if i = v then none else vdel σ vs i) = σ i
    rw [if_neg (fun z => h (by rw [z]; exact List.mem_cons_self))]
    exact vdel_ne fun z => h (List.mem_cons_of_mem _ z)
/-- the names of a comprehension touch nothing else: the slots outside are as before -/
def lcV (fv : PV → SV → Option SV) (us : List Nat) (tt : VT) (te : VE) (Fin : List PV → SV → Prop) : List PV → List PV → SV → Prop
  | [], acc, σ => Fin acc σ
  | p :: r, acc, σ => match fv p (vdel σ us) with
    | some σ' => tt σ' fun b σ1 => if b = true then te σ1 fun y σ2 => (match tk σ2 y with
        | some (q, σ3) => acc.length < sizeLine ∧ lcV fv us tt te Fin r (acc ++ [q]) (vdel σ3 us)
        | none => False) else lcV fv us tt te Fin r acc (vdel σ1 us)
    | none => False
def vLc (vi : VI) (fv : PV → SV → Option SV) (us : List Nat) (tt : VT) (te : VE) : VE := fun σ Ψ => vi σ fun ps σ1 => lcV fv us tt te (fun acc σ2 => Ψ (.v (.ow (.lst acc))) σ2) ps [] (vdel σ1 us)
/-- the target of a comprehension changes its own slots alone -/
def OnlyT (f : T → S2 → Option S2) (us : List Nat) : Prop := ∀ t S S', f t S = some S' → S'.length = S.length ∧ ∀ i, i ∉ us → S'[i]? = S[i]?
theorem VRel.outer {fx : Fx} {F : Gp} {own : Nat → Gp} {S S2' : S2} {G : Gp} {σ : SV} (g : VRel fx F own S2' G σ) (us : List Nat) (hl : S.length = S2'.length) (h : ∀ i, i ∉ us → S2'[i]? = S[i]?) (hio : ∀ j ∈ us, j ∉ fx.io) : VRel fx F own S G (vdel σ us) :=
  ⟨hl.trans g.len, fun i hi => (h i fun z => hio i z hi).symm.trans (g.pin i hi), g.sub, g.frs, g.frF, g.owG, g.owF, g.dis, fun i c e => by
    by_cases z : i ∈ us
    · rw [vdel_in z] at e; cases e
    · rw [vdel_ne z] at e
      rw [← h i z]
      exact g.cell i c e⟩
theorem wipe2_len {S : S2} : ∀ us : List Nat, (wipe2 S us).length = S.length
  | [] => rfl
  | v :: vs => by show ((wipe2 S vs).set v none).length = _; rw [List.length_set]; exact wipe2_len vs
theorem only_name {j : Nat} : OnlyT (gN j) [j] := fun t S S' e => by
  cases e
  exact ⟨List.length_set, fun i hi => List.getElem?_set_ne (fun z => hi (by rw [z]; exact List.mem_cons_self))⟩
def OnlyTs (f : List T → S2 → Option S2) (us : List Nat) : Prop := ∀ t S S', f t S = some S' → S'.length = S.length ∧ ∀ i, i ∉ us → S'[i]? = S[i]?
theorem only_nil : OnlyTs gNil2 [] := fun t S S' e => by
  cases t with
  | nil => cases e; exact ⟨rfl, fun _ _ => rfl⟩
  | cons _ _ => cases e
theorem only_cons {f : T → S2 → Option S2} {r : List T → S2 → Option S2} {us ws : List Nat} (h : OnlyT f us) (hr : OnlyTs r ws) : OnlyTs (gCons2 f r) (us ++ ws) := fun t S S' e => by
  cases t with
  | nil => cases e
  | cons t ts =>
    simp only [gCons2] at e
    split at e
    · rename_i S1 e1
      obtain ⟨h1, h2⟩ := h _ _ _ e1
      obtain ⟨h3, h4⟩ := hr _ _ _ e
      exact ⟨h3.trans h1, fun i hi => (h4 i fun z => hi (List.mem_append_right _ z)).trans (h2 i fun z => hi (List.mem_append_left _ z))⟩
    · cases e
theorem only_tup {f : List T → S2 → Option S2} {us : List Nat} {n : Nat} (h : OnlyTs f us) : OnlyT (gT n f) us := fun t S S' e => by
  cases t with
  | tup ts =>
    simp only [gT] at e
    split at e
    · exact h _ _ _ e
    · cases e
  | _ => cases e
theorem low_lcV {N : Nat} {w : Fq} (hg : GV N io f fv) (ho : OnlyT f us) (hio : ∀ j ∈ us, j ∉ io) {Keep : Gp → Prop} {Fin : List PV → SV → Prop} {FinT : List T → Gp → Prop} {F0 : Gp} {S : S2}
    (hF : ∀ acc accT F own G σ, Fin acc σ → Ext F0 F → VRel (fxo N io w) F own S G σ → RpL F accT acc → FinT accT G) :
    ∀ (ps : List PV) (ts : List T) (acc : List PV) (accT : List T) (F : Gp) (own : Nat → Gp) (G : Gp) (σ : SV), VRel (fxo N io w) F own S G (vdel σ us) → Ext F0 F → RpL F ts ps → RpL F accT acc → (∀ G'', Sub F G'' → Keep G'') → lcV fv us tt te Fin ps acc (vdel σ us) →
      lcW Keep f us (lowVT N io tt) (lowV N io te) FinT S ts accT G
  | [], _, acc, accT, F, own, G, σ, g, x, .nil, ra, hk, q => ⟨hk _ g.sub, hF _ _ _ _ _ _ q x g ra⟩
  | p :: ps, _, acc, accT, F, own, G, σ, g, x, .cons (t := t) (ts := ts) r rs, ra, hk, q => by
    refine ⟨hk _ g.sub, ?_⟩
    simp only [lcV] at q
    split at q
    · rename_i σ' e
      have g0 := g.dels us hio
      obtain ⟨S', own', f1, g1⟩ := hg _ _ _ _ _ _ _ _ _ g0 r e
      rw [f1]
      obtain ⟨hl, hn⟩ := ho _ _ _ f1
      have hl' : S.length = S'.length := by rw [hl, wipe2_len]
      have hn' : ∀ i, i ∉ us → S'[i]? = S[i]? := fun i hi => (hn i hi).trans (wipe2_ne hi)
      refine ⟨w, F, own', σ', _, g1, q, fun b σ1 F1 own1 G1 q1 x1 g2 => ?_⟩
      cases b with
      | false => exact ⟨G1, Sub.refl _, low_lcV hg ho hio hF ps ts acc accT F1 own1 G1 σ1 (g2.outer us hl' hn' hio) (x.trans x1) (rs.sub x1.sub) (ra.sub x1.sub) (fun G'' s => hk _ (x1.sub.trans s)) q1⟩
      | true =>
        refine ⟨w, F1, own1, σ1, _, g2, q1, fun y σ2 F2 own2 G2 ty q2 x2 g3 r3 => ?_⟩
        split at q2
        · rename_i z σ3 e3
          obtain ⟨F3, own3, g4, x3, rp⟩ := g3.tk r3 e3
          have xx := (x1.trans x2).trans x3
          exact ⟨by rw [(ra).length]; exact q2.1, G2, Sub.refl _, low_lcV hg ho hio hF ps ts (acc ++ [z]) (accT ++ [ty]) F3 own3 G2 σ3 (g4.outer us hl' hn' hio) (x.trans xx) (rs.sub xx.sub) ((ra.sub xx.sub).app (.cons rp .nil)) (fun G'' s => hk _ (xx.sub.trans s)) q2.2⟩
        · exact q2.elim
    · exact q.elim
theorem weakLs {l l' : LE} (h : E en X e l) (w : Shared → ∀ S G Φ, l' S G Φ → l S G Φ) : E en X e l' := ⟨fun pins s σ H Q I q => h.run pins s σ H Q I (let ⟨S, G, Φ, sr, g, q, k⟩ := q; ⟨S, G, Φ, sr, g, w s S G Φ q, k⟩)⟩
abbrev AtV (X : Cx) (scope : Scope) (P : Cx → Prop) : Prop := AtBlk X scope P
theorem low_vLc {N : Nat} (hg : GV N io f fv) (ho : OnlyT f us) (hio : ∀ j ∈ us, j ∉ io) : ∀ S G Φ, lowV N io (vLc vi fv us tt te) S G Φ → lLc (lowVI N io vi) f us (lowVT N io tt) (lowV N io te) S G Φ := fun S G Φ ⟨w, F, own, σ, Ψ, g, q, k⟩ => by
  refine ⟨w, F, own, σ, _, g, q, fun ps σ' F' own' G' ts Keep q1 x1 g1 r1 hk => ?_⟩
  have g1' : VRel (fxo N io w) F' own' S G' (vdel σ' us) := g1.outer us rfl (fun _ _ => rfl) hio
  refine low_lcV hg ho hio (F0 := F') (fun acc accT F2 own2 G2 σ2 q2 x2 g2 ra p hp => ?_) ps ts [] [] F' own' G' σ' g1' .refl r1 .nil hk q1
  obtain ⟨g3, m3⟩ := g2.fresh (Fresh.new (o := .lst accT) hp)
  exact k _ _ _ _ _ _ q2 (x1.trans x2) g3 ⟨_, ⟨p, _, rfl, rfl, ra⟩, m3⟩
def Evts (en : En) (X : Cx) (io : List Nat) (ifs : List Expr) (t : VT) : Prop := Ets en X ifs (lowVT X.N.length io t)
def vYes : VT := fun σ Ψ => Ψ true σ
theorem weakTs {l l' : LT} (h : Ets en X ifs l) (w : ∀ S G Φ, l' S G Φ → l S G Φ) : Ets en X ifs l' := PTs.weak h fun σ H Q ⟨S, G, Φ, s, g, q, k⟩ => ⟨S, G, Φ, s, g, w S G Φ q, k⟩
theorem evts_nil : Evts en X io [] vYes := weakTs ts_nil fun S G Φ ⟨w, F, own, σ, Ψ, g, q, k⟩ => k _ _ _ _ _ q .refl g
theorem evts_one (h : Evt en X io c vt) : Evts en X io [c] vt := ts_one h
variable {scope : Scope}
theorem ev_lc (own : List (Str × Nat)) (hN : X.N.Nodup) (hi : Evi en X io tg iter vi) (hg : AtBlk X scope fun Y => Egv Y io tg f fv (slotsOf own)) (ht : AtBlk X scope fun Y => Evts en Y io ifs tt) (he : AtBlk X scope fun Y => Ev en Y io elt te) (ho : OnlyT f (slotsOf own))
    (hio : ∀ j ∈ slotsOf own, j ∉ io := by decide) (hc : X.calm = true := by rfl) (ok : blkC X.N X.env.scope scope own = true := by rfl) (hs : ∀ x, foldedSetIterable iter X.env x = pure x := by intro _; rfl) :
    Ev en X io (.ListComp elt [⟨tg, iter, ifs, 0⟩] scope pos) (vLc vi fv (slotsOf own) tt te) := by
  have h := e_lc (w := lowVI X.N.length io vi) (tt := lowVT X.N.length io tt) (te := lowV X.N.length io te) (pos := pos) own hN hi (fun s H C cl fp => (hg s H C cl fp).eg) ht he hc ok hs
  exact weakLs h fun s => low_vLc (hg s (fun _ => none) 0 [] []).gv ho hio
end
end Vl
namespace Vl
open PySem PySem.Spec PyProof.Rows L2 Dv
/-! ### what a def promises, over values -/
abbrev XV := Addr → List (Str × PV) → SV → Prop
abbrev SpV := SV → (Cell → SV → Prop) → XV → Prop
def noXV : XV := fun _ _ _ => False
structure CalR (fx : Fx) (F : Gp) (S : S2) (Ψ : Cell → SV → Prop) (ΨE : XV) (Φ : QT) (ΦE : XK2) : Prop where
  ok : ∀ c σ' F' own' H t G', Ψ c σ' → Ext F F' → VRel fx F' own' S G' σ' → CellR F' H t c → Tmp fx F' own' G' H → Φ t G'
  er : ∀ C fs fT σ' F' own' G', ΨE C fs σ' → Ext F F' → VRel fx F' own' S G' σ' → RpF F' fT fs → ΦE C fT G'
def lowSpV (n : Nat) (io : List Nat) (sp : SpV) : Sp2 := fun ts G Φ ΦE => ts.length = n ∧ ∃ Fr F own σ Ψ ΨE, VRel ⟨n, io, ts.map some, Fr⟩ F own (ts.map some) G σ ∧ sp σ Ψ ΨE ∧ CalR ⟨n, io, ts.map some, Fr⟩ F (ts.map some) Ψ ΨE Φ ΦE
/-- the arguments: what is not io is frozen, what is io stays in its slot -/
abbrev Ag := PV ⊕ Nat
def argV (ioc : List Nat) : Nat → List RV → SV → Option (List Ag × SV)
  | _, [], σ => some ([], σ)
  | i, r :: rs, σ => if i ∈ ioc then (match r with
      | .sl j => (match argV ioc (i + 1) rs σ with
        | some (as, σ') => some (.inr j :: as, σ')
        | none => none)
      | _ => none) else (match tk σ r with
      | some (p, σ1) => (match argV ioc (i + 1) rs σ1 with
        | some (as, σ') => some (.inl p :: as, σ')
        | none => none)
      | none => none)
def cellOf (σ : SV) : Ag → Option Cell
  | .inl p => some (.fr p)
  | .inr j => σ j
def argS (σ : SV) (as : List Ag) : SV := fun i => match as[i]? with
  | some a => cellOf σ a
  | none => none
def jsA (as : List Ag) : Nat → Option Nat := fun i => match as[i]? with
  | some (.inr j) => some j
  | _ => none
def slA : List Ag → List Nat
  | [] => []
  | .inl _ :: as => slA as
  | .inr j :: as => j :: slA as
def backV (σr : SV) : Nat → List Ag → SV → SV
  | _, [], σ => σ
  | i, .inl _ :: as, σ => backV σr (i + 1) as σ
  | i, .inr j :: as, σ => vset (backV σr (i + 1) as σ) j (σr i)
def AgL (F : Gp) (S : S2) : List T → List Ag → Prop
  | [], [] => True
  | t :: ts, .inl p :: as => Rp F t p ∧ AgL F S ts as
  | t :: ts, .inr j :: as => S[j]? = some (some t) ∧ AgL F S ts as
  | _, _ => False
theorem AgL.sub {F F' : Gp} {S : S2} (s : Sub F F') : ∀ {ts : List T} {as : List Ag}, AgL F S ts as → AgL F' S ts as
  | [], [], _ => trivial
  | _ :: _, .inl _ :: _, h => ⟨h.1.sub s, AgL.sub s h.2⟩
  | _ :: _, .inr _ :: _, h => ⟨h.1, AgL.sub s h.2⟩
  | [], _ :: _, h => h.elim
  | _ :: _, [], h => h.elim
theorem AgL.app {F : Gp} {S : S2} {us : List T} {bs : List Ag} (h2 : AgL F S us bs) : ∀ {ts : List T} {as : List Ag}, AgL F S ts as → AgL F S (ts ++ us) (as ++ bs)
  | [], [], _ => h2
  | _ :: _, .inl _ :: _, h => ⟨h.1, AgL.app h2 h.2⟩
  | _ :: _, .inr _ :: _, h => ⟨h.1, AgL.app h2 h.2⟩
  | [], _ :: _, h => h.elim
  | _ :: _, [], h => h.elim
theorem AgL.inls {F : Gp} {S : S2} : ∀ {ts : List T} {ps : List PV}, RpL F ts ps → AgL F S ts (ps.map Sum.inl)
  | _, _, .nil => trivial
  | _, _, .cons h r => ⟨h, AgL.inls r⟩
theorem AgL.len {F : Gp} {S : S2} : ∀ {ts : List T} {as : List Ag}, AgL F S ts as → ts.length = as.length
  | [], [], _ => rfl
  | _ :: _, .inl _ :: _, h => congrArg Nat.succ (AgL.len h.2)
  | _ :: _, .inr _ :: _, h => congrArg Nat.succ (AgL.len h.2)
  | [], _ :: _, h => h.elim
  | _ :: _, [], h => h.elim
theorem AgL.get {F : Gp} {S : S2} : ∀ {ts : List T} {as : List Ag} {i : Nat} {a : Ag}, AgL F S ts as → as[i]? = some a → ∃ t, ts[i]? = some t ∧ (match a with
    | .inl p => Rp F t p
    | .inr j => S[j]? = some (some t))
  | [], [], i, a, _, e => by simp at e
  | t :: _, .inl p :: _, 0, a, h, e => by simp at e; subst e; exact ⟨t, rfl, h.1⟩
  | t :: _, .inr p :: _, 0, a, h, e => by simp at e; subst e; exact ⟨t, rfl, h.1⟩
  | _ :: _, .inl _ :: _, i + 1, a, h, e => by simpa using AgL.get (i := i) h.2 (by simpa using e)
  | _ :: _, .inr _ :: _, i + 1, a, h, e => by simpa using AgL.get (i := i) h.2 (by simpa using e)
  | [], _ :: _, _, _, h, _ => h.elim
  | _ :: _, [], _, _, h, _ => h.elim
theorem js_mem : ∀ {as : List Ag} {i k : Nat}, jsA as i = some k → k ∈ slA as
  | [], i, k, h => by simp [jsA] at h
  | .inl p :: as, 0, k, h => by simp [jsA] at h
  | .inl p :: as, i + 1, k, h => by simpa [slA] using js_mem (as := as) (i := i) (by simpa [jsA] using h)
  | .inr j :: as, 0, k, h => by simp [jsA] at h; simp [slA, h]
  | .inr j :: as, i + 1, k, h => by simp [slA]; exact .inr (js_mem (as := as) (i := i) (by simpa [jsA] using h))
theorem js_inj : ∀ {as : List Ag}, (slA as).Nodup → ∀ i i' k, jsA as i = some k → jsA as i' = some k → i = i'
  | [], _, i, i', k, h, _ => by simp [jsA] at h
  | .inl p :: as, hn, i, i', k, h, h' => by
    cases i with
    | zero => simp [jsA] at h
    | succ i =>
      cases i' with
      | zero => simp [jsA] at h'
      | succ i' => rw [js_inj (as := as) (by simpa [slA] using hn) i i' k (by simpa [jsA] using h) (by simpa [jsA] using h')]
  | .inr j :: as, hn, i, i', k, h, h' => by
    have hn2 := List.nodup_cons.mp (by simpa [slA] using hn)
    cases i with
    | zero =>
      cases i' with
      | zero => rfl
      | succ i' =>
        have e : j = k := by simpa [jsA] using h
        subst e
        exact absurd (js_mem (as := as) (i := i') (by simpa [jsA] using h')) hn2.1
    | succ i =>
      cases i' with
      | zero =>
        have e : j = k := by simpa [jsA] using h'
        subst e
        exact absurd (js_mem (as := as) (i := i) (by simpa [jsA] using h)) hn2.1
      | succ i' => rw [js_inj (as := as) hn2.2 i i' k (by simpa [jsA] using h) (by simpa [jsA] using h')]
theorem back_ok {σr : SV} : ∀ {as : List Ag} {d : Nat} {σ : SV} {k : Nat} {c : Cell}, backV σr d as σ k = some c → (∃ i, jsA as i = some k ∧ σr (d + i) = some c) ∨ ((∀ i, jsA as i ≠ some k) ∧ σ k = some c)
  | [], d, σ, k, c, h => .inr ⟨fun i e => by simp [jsA] at e, h⟩
  | .inl p :: as, d, σ, k, c, h => by
    rcases back_ok (as := as) (d := d + 1) h with ⟨i, h1, h2⟩ | ⟨h1, h2⟩
    · exact .inl ⟨i + 1, by simpa [jsA] using h1, by rw [← h2]; congr 1; omega⟩
    · refine .inr ⟨fun i e => ?_, h2⟩
      cases i with
      | zero => simp [jsA] at e
      | succ i => exact h1 i (by simpa [jsA] using e)
  | .inr j :: as, d, σ, k, c, h => by
    unfold backV at h
    rw [vset_ap] at h
    by_cases e : k = j
    · rw [if_pos e] at h
      subst e
      exact .inl ⟨0, by simp [jsA], by simpa using h⟩
    · rw [if_neg e] at h
      rcases back_ok (as := as) (d := d + 1) h with ⟨i, h1, h2⟩ | ⟨h1, h2⟩
      · exact .inl ⟨i + 1, by simpa [jsA] using h1, by rw [← h2]; congr 1; omega⟩
      · refine .inr ⟨fun i e' => ?_, h2⟩
        cases i with
        | zero => simp [jsA] at e'; exact e e'.symm
        | succ i => exact h1 i (by simpa [jsA] using e')
theorem argV_ok {N : Nat} {io ioc : List Nat} {w : Fq} {G : Gp} {S : S2} : ∀ {rs : List RV} {ts : List T} {F : Gp} {own : Nat → Gp} {σ σ' : SV} {i : Nat} {as : List Ag}, VRel (fxo N io w) F own S G σ → ArL F S ts rs → argV ioc i rs σ = some (as, σ') → ∃ F' own', VRel (fxo N io w) F' own' S G σ' ∧ Ext F F' ∧ AgL F' S ts as
  | [], [], F, own, σ, σ', i, as, g, _, e => by cases e; exact ⟨F, own, g, .refl, trivial⟩
  | r :: rs, t :: ts, F, own, σ, σ', i, as, g, h, e => by
    unfold argV at e
    split at e
    · split at e
      · rename_i j
        split at e
        · rename_i as' σ1 e1
          cases e
          obtain ⟨F', own', g', x', k'⟩ := argV_ok g h.2 e1
          exact ⟨F', own', g', x', h.1, k'⟩
        · cases e
      · cases e
    · split at e
      · rename_i p σ1 e1
        split at e
        · rename_i as' σ2 e2
          cases e
          obtain ⟨F1, own1, g1, x1, rp⟩ := g.tk h.1.rv e1
          obtain ⟨F', own', g', x', k'⟩ := argV_ok g1 (ArL.sub x1.sub h.2) e2
          exact ⟨F', own', g', x1.trans x', rp.sub x'.sub, k'⟩
        · cases e
      · cases e
  | [], _ :: _, _, _, _, _, _, _, _, h, _ => h.elim
  | _ :: _, [], _, _, _, _, _, _, _, h, _ => h.elim
open Classical in
/-- the frame of what is called -/
noncomputable def frm (Fr G : Gp) (own : Nat → Gp) (js : Nat → Option Nat) : Gp := fun a => if ∃ k, own k a ≠ none ∧ ∀ i, js i ≠ some k then G a else Fr a
open Classical in
noncomputable def backO (own own' : Nat → Gp) (js : Nat → Option Nat) : Nat → Gp := fun k => if h : ∃ i, js i = some k then own' h.choose else own k
theorem backO_in {own own' : Nat → Gp} {js : Nat → Option Nat} {i k : Nat} (inj : ∀ i i' k, js i = some k → js i' = some k → i = i') (h : js i = some k) : backO own own' js k = own' i := by
  have hx : ∃ i, js i = some k := ⟨i, h⟩
  unfold backO
  rw [dif_pos hx]
  rw [inj _ _ _ hx.choose_spec h]
theorem backO_out {own own' : Nat → Gp} {js : Nat → Option Nat} {k : Nat} (h : ∀ i, js i ≠ some k) : backO own own' js k = own k := by
  unfold backO
  rw [dif_neg (fun ⟨i, e⟩ => h i e)]
section
variable {N n : Nat} {io io' : List Nat} {w : Fq} {F G : Gp} {own : Nat → Gp} {S : S2} {σ : SV} {js : Nat → Option Nat} {ts : List T} {σa : SV}
def ownA (own : Nat → Gp) (js : Nat → Option Nat) : Nat → Gp := fun i => match js i with
  | some k => own k
  | none => nil0
theorem frm_ne {Fr : Gp} {a : Addr} (h : frm Fr G own js a ≠ none) : (∃ k, own k a ≠ none ∧ ∀ i, js i ≠ some k) ∨ Fr a ≠ none := by
  unfold frm at h
  by_cases z : ∃ k, own k a ≠ none ∧ ∀ i, js i ≠ some k
  · exact .inl z
  · rw [if_neg z] at h; exact .inr h
theorem frm_or {Fr : Gp} {a : Addr} {o : O} (h : frm Fr G own js a = some o) : G a = some o ∨ Fr a = some o := by
  unfold frm at h
  by_cases z : ∃ k, own k a ≠ none ∧ ∀ i, js i ≠ some k
  · rw [if_pos z] at h; exact .inl h
  · rw [if_neg z] at h; exact .inr h
/-- what is called starts with its arguments -/
theorem VRel.call (g : VRel (fxo N io w) F own S G σ) (hl : ts.length = n) (inj : ∀ i i' k, js i = some k → js i' = some k → i = i')
    (hc : ∀ i c, σa i = some c → ∃ t, ts[i]? = some t ∧ ((∃ k, js i = some k ∧ σ k = some c ∧ S[k]? = some (some t)) ∨ (js i = none ∧ ∃ p, c = .fr p ∧ Rp F t p))) :
    VRel ⟨n, io', ts.map some, frm w.Fr G own js⟩ F (ownA own js) (ts.map some) G σa := by
  have hoA : ∀ i a, ownA own js i a ≠ none → ∃ k, js i = some k ∧ own k a ≠ none := by
    intro i a h
    cases e : js i with
    | none => simp [ownA, e, nil0] at h
    | some k => exact ⟨k, rfl, by simpa [ownA, e] using h⟩
  refine ⟨by rw [List.length_map]; exact hl, fun i _ => rfl, g.sub, fun a o e => ?_, fun a e => ?_, fun i a o e => ?_, fun i a e => ⟨?_, ?_⟩, fun i j a hij e => ?_, fun i c e => ?_⟩
  · rcases frm_or (show frm w.Fr G own js a = some o from e) with e | e
    · exact e
    · exact g.frs _ _ e
  · show frm w.Fr G own js a = none
    cases z : frm w.Fr G own js a with
    | none => rfl
    | some o =>
      rcases frm_ne (by rw [z]; simp) with ⟨k, hk, _⟩ | h
      · exact absurd (g.owF k a hk).1 e
      · exact absurd (g.frF a e) h
  · obtain ⟨k, e1, e2⟩ := hoA i a (by rw [e]; simp)
    unfold ownA at e
    rw [e1] at e
    exact g.owG k _ _ e
  · obtain ⟨k, e1, e2⟩ := hoA i a e
    exact (g.owF k a e2).1
  · obtain ⟨k, e1, e2⟩ := hoA i a e
    show frm w.Fr G own js a = none
    cases z : frm w.Fr G own js a with
    | none => rfl
    | some o =>
      rcases frm_ne (by rw [z]; simp) with ⟨k', hk, hn⟩ | h
      · by_cases y : k = k'
        · subst y; exact absurd e1 (hn i)
        · exact absurd (g.dis k k' a y e2) hk
      · exact absurd (g.owF k a e2).2 h
  · obtain ⟨k, e1, e2⟩ := hoA i a e
    cases z : ownA own js j a with
    | none => rfl
    | some o =>
      obtain ⟨k', e3, e4⟩ := hoA j a (by rw [z]; simp)
      by_cases y : k = k'
      · subst y; exact absurd (inj _ _ _ e1 e3) hij
      · exact absurd (g.dis k k' a y e2) e4
  · obtain ⟨t, e1, h⟩ := hc i c e
    refine ⟨t, by rw [List.getElem?_map, e1]; rfl, ?_⟩
    rcases h with ⟨k, e2, e3, e4⟩ | ⟨e2, p, rfl, r⟩
    · obtain ⟨u, e5, e6⟩ := g.cell k c e3
      rw [e4] at e5
      cases e5
      unfold ownA
      rw [e2]
      exact e6
    · exact r
/-- .. and ends -/
theorem VRel.back (g : VRel (fxo N io w) F own S G σ) (inj : ∀ i i' k, js i = some k → js i' = some k → i = i') (hj : ∀ i k t, js i = some k → ts[i]? = some t → S[k]? = some (some t))
    {F' G' H : Gp} {own' : Nat → Gp} {σr : SV} (x : Ext F F') (g' : VRel ⟨n, io', ts.map some, frm w.Fr G own js⟩ F' own' (ts.map some) G' σr) (m : Tmp ⟨n, io', ts.map some, frm w.Fr G own js⟩ F' own' G' H)
    {σb : SV} (hb : ∀ k c, σb k = some c → (∃ i, js i = some k ∧ σr i = some c) ∨ ((∀ i, js i ≠ some k) ∧ σ k = some c)) :
    ∃ own3, VRel (fxo N io w) F' own3 S G' σb ∧ Tmp (fxo N io w) F' own3 G' H := by
  have frE : ∀ a, w.Fr a ≠ none → frm w.Fr G own js a = w.Fr a := by
    intro a h
    unfold frm
    rw [if_neg]
    rintro ⟨k, hk, _⟩
    exact h (g.owF k a hk).2
  have frO : ∀ a k, own k a ≠ none → (∀ i, js i ≠ some k) → frm w.Fr G own js a = G a := by
    intro a k hk hn
    unfold frm
    rw [if_pos ⟨k, hk, hn⟩]
  have frO2 : ∀ a k, own k a ≠ none → (∀ i, js i ≠ some k) → frm w.Fr G own js a ≠ none := by
    intro a k hk hn
    rw [frO a k hk hn]
    obtain ⟨o, e⟩ := Option.ne_none_iff_exists'.mp hk
    rw [g.owG k _ _ e]
    simp
  have frN : ∀ a, frm w.Fr G own js a = none → w.Fr a = none := by
    intro a h
    cases z : w.Fr a with
    | none => rfl
    | some o => rw [frE a (by rw [z]; simp), z] at h; cases h
  have cas : ∀ k, (∃ i, js i = some k) ∨ ∀ i, js i ≠ some k := fun k => by
    by_cases h : ∃ i, js i = some k
    · exact .inl h
    · exact .inr fun i e => h ⟨i, e⟩
  refine ⟨backO own own' js, ⟨g.len, g.pin, g'.sub, fun a o e => ?_, fun a e => ?_, fun k => ?_, fun k a e => ?_, fun k l a hkl e => ?_, fun k c e => ?_⟩, ⟨m.sub, fun a e => ⟨(m.dF a e).1, frN a (m.dF a e).2⟩, fun a k e => ?_⟩⟩
  · have e : w.Fr a = some o := e
    have : frm w.Fr G own js a = some o := by rw [frE a (by rw [e]; simp)]; exact e
    exact g'.frs _ _ this
  · exact frN a (g'.frF a e)
  · rcases cas k with ⟨i, h⟩ | h
    · rw [backO_in inj h]; exact g'.owG i
    · rw [backO_out h]
      intro a o e
      have : frm w.Fr G own js a = some o := by rw [frO a k (by rw [e]; simp) h]; exact g.owG k _ _ e
      exact g'.frs _ _ this
  · rcases cas k with ⟨i, h⟩ | h
    · rw [backO_in inj h] at e
      exact ⟨(g'.owF i a e).1, frN a (g'.owF i a e).2⟩
    · rw [backO_out h] at e
      refine ⟨?_, (g.owF k a e).2⟩
      cases z : F' a with
      | none => rfl
      | some o => exact absurd (g'.frF a (by rw [z]; simp)) (frO2 a k e h)
  · rcases cas k with ⟨i, h⟩ | h
    · rw [backO_in inj h] at e
      rcases cas l with ⟨j, h2⟩ | h2
      · rw [backO_in inj h2]
        refine g'.dis i j a (fun z => hkl ?_) e
        subst z
        rw [h] at h2
        exact Option.some.inj h2
      · rw [backO_out h2]
        cases z : own l a with
        | none => rfl
        | some o => exact absurd (g'.owF i a e).2 (frO2 a l (by rw [z]; simp) h2)
    · rw [backO_out h] at e
      rcases cas l with ⟨j, h2⟩ | h2
      · rw [backO_in inj h2]
        cases z : own' j a with
        | none => rfl
        | some o => exact absurd (g'.owF j a (by rw [z]; simp)).2 (frO2 a k e h)
      · rw [backO_out h2]; exact g.dis k l a hkl e
  · rcases hb k c e with ⟨i, h1, h2⟩ | ⟨h1, h2⟩
    · obtain ⟨t, e1, e2⟩ := g'.cell i c h2
      rw [List.getElem?_map] at e1
      cases z : ts[i]? with
      | none => rw [z] at e1; cases e1
      | some u =>
        rw [z] at e1
        cases e1
        rw [backO_in inj h1]
        exact ⟨t, hj i k t h1 z, e2⟩
    · obtain ⟨t, e1, e2⟩ := g.cell k c h2
      rw [backO_out h1]
      exact ⟨t, e1, e2.sub x.sub⟩
  · rcases cas k with ⟨i, h⟩ | h
    · rw [backO_in inj h]; exact m.dO a i e
    · rw [backO_out h]
      cases z : own k a with
      | none => rfl
      | some o => exact absurd (m.dF a e).2 (frO2 a k (by rw [z]; simp) h)
end
/-! ### a call -/
section
variable {en : En} {X : Cx} {io ioc : List Nat} {n : Nat} {a b c e o : Expr} {es : List Expr} {va : VA} {spv : SpV} {dts : List T} {dps : List PV}
def vCall (n : Nat) (ioc : List Nat) (sp : SpV) (dps : List PV) (va : VA) : VE := fun σ Ψ => va σ fun rs σ1 => match argV ioc 0 rs σ1 with
  | some (as, σ2) => as.length + dps.length = n ∧ (slA as).Nodup ∧ sp (argS σ2 (as ++ dps.map Sum.inl)) (fun c σr => Ψ (.v c) (backV σr 0 as σ2)) noXV
  | none => False
theorem js_app {as : List Ag} {dps : List PV} : jsA (as ++ dps.map Sum.inl) = jsA as := by
  funext i
  unfold jsA
  rcases Nat.lt_or_ge i as.length with h | h
  · rw [List.getElem?_append_left h]
  · rw [List.getElem?_append_right h, List.getElem?_eq_none h, List.getElem?_map]
    cases dps[i - as.length]? <;> rfl
/-- what a promise gives where it is called -/
theorem call_lowG {N : Nat} {w : Fq} {F G : Gp} {own : Nat → Gp} {S : S2} {σ : SV} {ts : List T} {as : List Ag} {Ψ : Cell → SV → Prop} {Φ : QT} (hd : ∀ F, RpL F dts dps) (g : VRel (fxo N io w) F own S G σ) (ha : AgL F S ts as) (hl : as.length + dps.length = n) (hn : (slA as).Nodup)
    (h : spv (argS σ (as ++ dps.map Sum.inl)) Ψ noXV) (k : ∀ c σr F' own' G' H t, Ψ c σr → Ext F F' → VRel (fxo N io w) F' own' S G' (backV σr 0 as σ) → CellR F' H t c → Tmp (fxo N io w) F' own' G' H → Φ t G') : lowSpV n ioc spv (ts ++ dts) G Φ noX := by
  have inj := js_inj hn
  have ha2 : AgL F S (ts ++ dts) (as ++ dps.map Sum.inl) := AgL.app (AgL.inls (hd F)) ha
  have hl2 : (ts ++ dts).length = n := by rw [ha2.len, List.length_append, List.length_map]; exact hl
  have hj : ∀ i k t, jsA as i = some k → (ts ++ dts)[i]? = some t → S[k]? = some (some t) := by
    intro i k t h1 h2
    rw [← js_app (dps := dps)] at h1
    unfold jsA at h1
    split at h1
    · rename_i j e
      cases h1
      obtain ⟨u, e1, e2⟩ := ha2.get e
      rw [h2] at e1
      cases e1
      exact e2
    · cases h1
  have gc := VRel.call (io' := ioc) (js := jsA as) (σa := argS σ (as ++ dps.map Sum.inl)) g hl2 inj fun i c e => by
    unfold argS at e
    split at e
    · rename_i a ea
      obtain ⟨t, e1, e2⟩ := ha2.get ea
      refine ⟨t, e1, ?_⟩
      cases a with
      | inl p =>
        cases e
        refine .inr ⟨?_, p, rfl, e2⟩
        rw [← js_app (dps := dps)]
        unfold jsA
        rw [ea]
      | inr j =>
        refine .inl ⟨j, ?_, e, e2⟩
        rw [← js_app (dps := dps)]
        unfold jsA
        rw [ea]
    · cases e
  refine ⟨hl2, _, F, _, _, _, noXV, gc, h, ⟨fun c σ' F' own' H t G' q x g' r m => ?_, fun C fs fT σ' F' own' G' q => q.elim⟩⟩
  obtain ⟨own3, g3, m3⟩ := VRel.back (σb := backV σ' 0 as σ) g inj hj x g' m fun k c e => by
    rcases back_ok e with ⟨i, h1, h2⟩ | h1
    · exact .inl ⟨i, h1, by simpa using h2⟩
    · exact .inr h1
  exact k _ _ _ _ _ _ _ q x g3 r m3
theorem call_low {N : Nat} {w : Fq} {F G : Gp} {own : Nat → Gp} {S : S2} {σ : SV} {ts : List T} {as : List Ag} {Ψ : RV → SV → Prop} {Φ : QT} (hd : ∀ F, RpL F dts dps) (g : VRel (fxo N io w) F own S G σ) (ha : AgL F S ts as) (hl : as.length + dps.length = n) (hn : (slA as).Nodup)
    (h : spv (argS σ (as ++ dps.map Sum.inl)) (fun c σr => Ψ (.v c) (backV σr 0 as σ)) noXV) (k : ∀ r σ' F' own' G' t, Ψ r σ' → Ext F F' → VRel (fxo N io w) F' own' S G' σ' → RvR (fxo N io w) F' own' S G' t r → Φ t G') : lowSpV n ioc spv (ts ++ dts) G Φ noX :=
  call_lowG hd g ha hl hn h fun c σr F' own' G' H t q x g3 r m3 => k _ _ _ _ _ _ q x g3 ⟨H, r, m3⟩
theorem ev_call (hd : ∀ F, RpL F dts dps) (he : ∀ l, Ea en X es l → E en X e (lCall (lowSpV n ioc spv) dts noX l)) (h : Eva en X io es va) : Ev en X io e (vCall n ioc spv dps va) := weakL (he _ h) fun S G Φ ⟨w, F, own, σ, Ψ, g, q, k⟩ => by
  refine ⟨w, F, own, σ, _, g, q, fun rs σ1 F1 own1 G1 ts q1 x1 g1 r1 => ?_⟩
  split at q1
  · rename_i as σ2 e1
    obtain ⟨F2, own2, g2, x2, a2⟩ := argV_ok g1 r1 e1
    exact call_low hd g2 a2 q1.1 q1.2.1 q1.2.2 fun r σ' F' own' G' t h1 x h2 h3 => k r σ' F' own' G' t h1 ((x1.trans x2).trans x) h2 h3
  · exact q1.elim
end
end Vl
namespace Vl
open PySem PySem.Spec PyProof.Rows L2 Dv
/-! ### a def's body gives its promise -/
def resS (io : List Nat) (σ : SV) : SV := fun i => if i ∈ io then σ i else none
def endsV (io : List Nat) (Ψ : Cell → SV → Prop) : VEnds where
  nx := fun σ => Ψ (.fr .non) (resS io σ)
  rt := fun r σ => match r with
    | .v c => Ψ c (resS io σ)
    | .sl i => i ∉ io ∧ match σ i with
      | some c => Ψ c (resS io σ)
      | none => False
theorem slots0_lt {N : List Str} {ts : List T} {i : Nat} {t : T} (h : (slots0 N ts)[i]? = some (some t)) : ts[i]? = some t := by
  unfold slots0 at h
  by_cases hl : i < ts.length
  · rw [List.getElem?_append_left (by simpa using hl), List.getElem?_map] at h
    cases q : ts[i]? with
    | none => rw [q] at h; cases h
    | some u => rw [q] at h; cases h; rfl
  · rw [List.getElem?_append_right (by simpa using hl), List.getElem?_replicate] at h
    split at h <;> cases h
theorem slots0_at {N : List Str} {ts : List T} {i : Nat} {t : T} (h : ts[i]? = some t) : (slots0 N ts)[i]? = some (some t) := by
  have hl : i < ts.length := by
    rcases Nat.lt_or_ge i ts.length with z | z
    · exact z
    · rw [List.getElem?_eq_none z] at h; cases h
  unfold slots0
  rw [List.getElem?_append_left (by simpa using hl), List.getElem?_map, h]
  rfl
section
variable {P : Program} {w : World} {K : Fr0} {mg : Str → Option Value} {base : Heap} {x qual : Str} {st : Stmt} {N ps : List Str} {k n : Nat} {spv : SpV} {io : List Nat} {C : Addr}
theorem body_low {en : En} {X : Cx} {body : List Stmt} {vs : VS} {ts : List T} {G : Gp} {Φ : QT} {ΦE : XK2} (hb : Evss en X io body vs) (hN : n ≤ X.N.length) (h : ∀ σ Ψ ΨE, spv σ Ψ ΨE → vs (endsV io Ψ) σ) (hsp : lowSpV n io spv ts G Φ ΦE) :
    ∃ l, Ess en X body l ∧ l (bodyL Φ) (slots0 X.N ts) G := by
  obtain ⟨hl, Fr, F, own, σ, Ψ, ΨE, g, hs, cal⟩ := hsp
  refine ⟨_, hb, ⟨slots0 X.N ts, Fr⟩, F, own, σ, _, ⟨?_, fun i _ => rfl, g.sub, g.frs, g.frF, g.owG, g.owF, g.dis, fun i c e => ?_⟩, h σ Ψ ΨE hs, ?_⟩
  · unfold slots0
    rw [List.length_append, List.length_map, List.length_replicate, hl]
    exact Nat.add_sub_cancel' hN
  · obtain ⟨t, e1, e2⟩ := g.cell i c e
    rw [List.getElem?_map] at e1
    cases q : ts[i]? with
    | none => rw [q] at e1; cases e1
    | some u =>
      rw [q] at e1
      cases e1
      exact ⟨_, slots0_at q, e2⟩
  · have fin : ∀ {F' : Gp} {own' : Nat → Gp} {S' : S2} {G' : Gp} {σ' : SV}, VRel (fxo X.N.length io ⟨slots0 X.N ts, Fr⟩) F' own' S' G' σ' →
        VRel ⟨n, io, ts.map some, Fr⟩ F' (fun i => if i ∈ io then own' i else nil0) (ts.map some) G' (resS io σ') := by
      intro F' own' S' G' σ' g'
      refine ⟨by rw [List.length_map]; exact hl, fun i _ => rfl, g'.sub, g'.frs, g'.frF, fun i a o e => ?_, fun i a e => ?_, fun i j a hij e => ?_, fun i c e => ?_⟩
      · split at e
        · exact g'.owG i _ _ e
        · cases e
      · split at e
        · exact g'.owF i a e
        · exact absurd rfl e
      · split at e
        · split
          · exact g'.dis i j a hij e
          · rfl
        · exact absurd rfl e
      · unfold resS at e
        split at e
        · rename_i hi
          obtain ⟨t, e1, e2⟩ := g'.cell i c e
          have := g'.pin i hi
          rw [e1] at this
          refine ⟨t, ?_, ?_⟩
          · rw [List.getElem?_map, slots0_lt this.symm]; rfl
          · rw [if_pos hi]; exact e2
        · cases e
    have fint : ∀ {F' : Gp} {own' : Nat → Gp} {G' H : Gp}, Tmp (fxo X.N.length io ⟨slots0 X.N ts, Fr⟩) F' own' G' H → Tmp ⟨n, io, ts.map some, Fr⟩ F' (fun i => if i ∈ io then own' i else nil0) G' H := by
      intro F' own' G' H m
      refine ⟨m.sub, m.dF, fun a i e => ?_⟩
      split
      · exact m.dO a i e
      · rfl
    refine ⟨fun S' G' σ' F' own' q x' g' => ?_, fun r σ' F' own' S' G' t q x' g' r' => ?_, fun _ _ _ _ _ q => q.elim, fun _ _ _ _ _ q => q.elim⟩
    · exact rtF.of (cal.ok _ _ _ _ _ _ _ q x' (fin g') (show CellR F' nil0 .non (.fr .non) from .non) .nil)
    · cases r with
      | v c =>
        obtain ⟨H, h1, h2⟩ := r'
        exact rtF.of (cal.ok _ _ _ _ _ _ _ q x' (fin g') h1 (fint h2))
      | sl i =>
        obtain ⟨hi, q⟩ := q
        cases e : σ' i with
        | none => rw [e] at q; exact q.elim
        | some c =>
          rw [e] at q
          obtain ⟨u, e1, e2⟩ := g'.cell i c e
          have r' : S'[i]? = some (some t) := r'
          rw [r'] at e1
          cases e1
          refine rtF.of (cal.ok _ _ _ _ _ _ _ q x' (fin g') e2 ⟨g'.owG i, fun a z => g'.owF i a z, fun a j z => ?_⟩)
          split
          · rename_i hj
            exact g'.dis i j a (fun y => hi (by rw [y]; exact hj)) z
          · rfl
abbrev BodyV (P : Program) (w : World) (K : Fr0) (mg : Str → Option Value) (base : Heap) (N : List Str) (qual : Str) (scope : Scope) (k : Nat) (body : List Stmt) (io : List Nat) (spv : SpV) : Prop :=
  ∀ (f : Addr) (cdv : Value) (A : Around) (outer : List Env) (s : Shared) (H : Hp) (E : XK) (en : En), Room k (A.deeper (envOfC qual scope s.heap.objs.size f cdv)) →
    ∃ vs, Evss en (bx P w K mg base N qual scope f cdv A outer s H E) io body vs ∧ ∀ σ Ψ ΨE, spv σ Ψ ΨE → vs (endsV io Ψ) σ
theorem bodyV_ok {scope : Scope} {body : List Stmt} (hN : n ≤ N.length) (hb : BodyV P w K mg base N qual scope k body io spv) (f : Addr) : BodyOk P w K mg base N qual scope f k body (lowSpV n io spv) := fun cdv A outer s H E ts G Φ ΦE hr ho hsp => by
  obtain ⟨vs, h1, h2⟩ := hb f cdv A outer s H E [(H, G)] hr
  exact body_low h1 hN h2 hsp
abbrev KnV (P : Program) (w : World) (K : Fr0) (mg : Str → Option Value) (base : Heap) (k : Nat) (x : Str) (n : Nat) (io : List Nat) (spv : SpV) : Prop := Kn P w K mg base k x (lowSpV n io spv) []
theorem knv_of (D : Df K mg x st ps) (S : FnScope N ps (defScope st)) (hn : n = ps.length) (hN : n ≤ N.length) (hb : BodyV P w K mg base N x (defScope st) k (defBody st) io spv) : KnV P w K mg base (k + 1) x n io spv :=
  kn_of D S (fun ts G Φ ΦE h => h.1.trans hn) fun f => bodyV_ok hN hb f
abbrev KnMV (P : Program) (w : World) (K : Fr0) (mg : Str → Option Value) (base : Heap) (k : Nat) (C : Addr) (m : Str) (n : Nat) (io : List Nat) (spv : SpV) : Prop := KnM P w K mg base k C m (lowSpV n io spv) []
theorem knMv_of {m : Str} (c : Cls K C) (D : DfM K C m qual st ps) (S : FnScope N ps (defScope st)) (hn : n = ps.length) (hN : n ≤ N.length) (hb : BodyV P w K mg base N qual (defScope st) k (defBody st) io spv) : KnMV P w K mg base (k + 1) C m n io spv :=
  knM_of c D S (fun ts G Φ ΦE h => h.1.trans hn) fun f => bodyV_ok hN hb f
abbrev KnIV (P : Program) (w : World) (K : Fr0) (mg : Str → Option Value) (base : Heap) (k : Nat) (x : Str) (C : Addr) (n : Nat) (io : List Nat) (spv : SpV) : Prop := KnI P w K mg base k x C (lowSpV n io spv) []
theorem knIv_of (D : DfI K mg x C qual st ps) (S : FnScope N ps (defScope st)) (hn : n = ps.length) (hN : n ≤ N.length) (hb : BodyV P w K mg base N qual (defScope st) k (defBody st) io spv) : KnIV P w K mg base (k + 1) x C n io spv :=
  knI_of D S (fun ts G Φ ΦE h => h.1.trans hn) fun f => bodyV_ok hN hb f
abbrev KnPV (P : Program) (w : World) (K : Fr0) (mg : Str → Option Value) (base : Heap) (k : Nat) (C : Addr) (m : Str) (io : List Nat) (spv : SpV) : Prop := KnP P w K mg base k C m (lowSpV 1 io spv)
theorem knPv_of {m : Str} (c : Cls K C) (D : DfP K C m qual st) (S : FnScope N ["self"] (defScope st)) (hN : 1 ≤ N.length) (hb : BodyV P w K mg base N qual (defScope st) k (defBody st) io spv) : KnPV P w K mg base (k + 1) C m io spv :=
  knP_of c D S (fun ts G Φ ΦE h => h.1) fun f => bodyV_ok hN hb f
end
/-! ### what a name owns is changed -/
section
variable {en : En} {X : Cx} {io : List Nat} {a b c e o : Expr} {es : List Expr} {va vb vc : VE} {vl vk : VA} {pos p3 : Pos}
def kdL : PV → Bool
  | .lst _ => true
  | _ => false
def kdD : PV → Bool
  | .dic _ => true
  | _ => false
def MutV (ty : String) (kd : PV → Bool) (r : RMT) (rp : PV → List PV → (PV → PV → Prop) → Prop) : Prop :=
  (∀ F H G t p, Ow F H t p → Sub H G → kd p = true → tyT ty t G) ∧
  ∀ (F G H : Gp) (t : T) (p : PV) (ts : List T) (ps : List PV) (Ψ : PV → PV → Prop) (Φ : QT), Sub F G → Ow F H t p → Sub H G → (∀ a, H a ≠ none → F a = none) → RpL F ts ps → rp p ps Ψ →
    (∀ res p' t' a o o', t = .ref a → H = one a o → Ψ res p' → Rp F t' res → Ow F (one a o') t p' → Φ t' (gup G a o')) → r t ts G Φ
def vMut (kd : PV → Bool) (rp : PV → List PV → (PV → PV → Prop) → Prop) (i : Nat) (va : VA) : VE := fun σ Ψ => (match σ i with
    | some (.ow p) => kd p = true
    | _ => False) ∧ va σ fun rs σ1 => match tkL σ1 rs with
  | some (ps, σ2) => (match σ2 i with
    | some (.ow p) => rp p ps fun res p' => Ψ (.v (.fr res)) (vset σ2 i (some (.ow p')))
    | _ => False)
  | none => False
theorem low_vMut {N : Nat} {ty : String} {kd : PV → Bool} {r : RMT} {rp : PV → List PV → (PV → PV → Prop) → Prop} {i : Nat} {la : LE} (h : MutV ty kd r rp) (hla : ∀ S G Φ t, S[i]? = some (some t) → Φ t G → la S G Φ) : ∀ S G Φ, lowV N io (vMut kd rp i vl) S G Φ → lBM ty r la (lowVA N io vl) S G Φ := fun S G Φ ⟨w, F, own, σ, Ψ, g, ⟨q0, q⟩, k⟩ => by
  cases e0 : σ i with
  | none => rw [e0] at q0; exact q0.elim
  | some c0 =>
    rw [e0] at q0
    cases c0 with
    | ow p0 =>
      obtain ⟨t, ht, hc⟩ := g.cell i _ e0
      refine hla S G _ t ht ⟨h.1 _ _ _ _ _ hc (g.owG i) q0, ?_⟩
      refine ⟨w, F, own, σ, _, g, q, fun rs σ1 F1 own1 G1 ts q1 x1 g1 r1 => ?_⟩
      split at q1
      · rename_i ps σ2 e1
        obtain ⟨F2, own2, g2, x2, r2⟩ := tkL_ok g1 r1 e1
        split at q1
        · rename_i p e2
          obtain ⟨t2, ht2, hc2⟩ := g2.cell i _ e2
          rw [ht] at ht2
          cases ht2
          refine h.2 _ _ _ _ _ _ _ _ _ g2.sub hc2 (g2.owG i) (fun a z => (g2.owF i a z).1) r2 q1 fun res p' t' a o o' e3 e4 q2 rr ow' => ?_
          obtain ⟨own3, g3, x3⟩ := g2.mut (o' := o') (c := .ow p') e4 ⟨t, ht, ow'⟩
          exact k _ _ _ _ _ _ q2 ((x1.trans x2).trans x3) g3 ⟨nil0, rr, .nil⟩
        · exact q1.elim
      · exact q1.elim
    | _ => exact q0.elim
theorem var_at {S : S2} {i : Nat} : ∀ (G : Gp) (Φ : QT) (t : T), S[i]? = some (some t) → Φ t G → lVar i S G Φ := fun G Φ t h q => by
  unfold lVar
  rw [sl_of h]
  exact q
theorem ev_mut {ty : String} {kd : PV → Bool} {r : RMT} {rp : PV → List PV → (PV → PV → Prop) → Prop} {i : Nat} (he : ∀ l, Ea en X es l → E en X e (lBM ty r (lVar i) l)) (h : MutV ty kd r rp) (ha : Eva en X io es vl) : Ev en X io e (vMut kd rp i vl) :=
  weakL (he _ ha) (low_vMut h fun S G Φ t => var_at G Φ t)
theorem ev_mut0 {ty : String} {kd : PV → Bool} {r : RMT} {rp : PV → List PV → (PV → PV → Prop) → Prop} {i : Nat} (he : E en X e (lBM ty r (lVar i) lNil)) (h : MutV ty kd r rp) : Ev en X io e (vMut kd rp i vNil) :=
  weakL he fun S G Φ q => by
    have := low_vMut h (fun S G Φ t => var_at G Φ t) S G Φ q
    unfold lBM at this ⊢
    unfold lVar at this ⊢
    split at this
    · exact ⟨this.1, ea_lNil _ _ _ this.2⟩
    · exact this.elim
theorem kdL_ok : ∀ F H G t p, Ow F H t p → Sub H G → kdL p = true → tyT "list" t G := fun F H G t p h s k => by
  cases p with
  | lst ps => obtain ⟨a, ts, rfl, rfl, _⟩ := h; simp [tyT, s _ _ one_same]
  | _ => cases k
theorem kdD_ok : ∀ F H G t p, Ow F H t p → Sub H G → kdD p = true → tyT "dict" t G := fun F H G t p h s k => by
  cases p with
  | dic ps => obtain ⟨a, ts, rfl, rfl, _⟩ := h; simp [tyT, s _ _ one_same]
  | _ => cases k
def appP : PV → List PV → (PV → PV → Prop) → Prop
  | .lst xs, [q], k => xs.length < sizeLine ∧ k .non (.lst (xs ++ [q]))
  | _, _, _ => False
theorem mv_append : MutV "list" kdL appT appP := ⟨kdL_ok, fun F G H t p ts ps Ψ Φ s ow sh _ r hh k => by
  match p, ps, hh with
  | .lst xs, [q], hh =>
    obtain ⟨a, us, rfl, rfl, r0⟩ := ow
    cases r with
    | cons h1 h2 =>
      cases h2
      simp only [appT, sh _ _ one_same]
      exact ⟨by rw [r0.length]; exact hh.1, k _ _ _ _ _ _ rfl rfl hh.2 .non ⟨a, _, rfl, rfl, r0.app (.cons h1 .nil)⟩⟩⟩
def extP : PV → List PV → (PV → PV → Prop) → Prop
  | .lst xs, [.lst ys], k => xs.length + ys.length ≤ sizeLine ∧ k .non (.lst (xs ++ ys))
  | _, _, _ => False
theorem mv_extend : MutV "list" kdL extT extP := ⟨kdL_ok, fun F G H t p ts ps Ψ Φ s ow sh _ r hh k => by
  match p, ps, hh with
  | .lst xs, [.lst ys], hh =>
    obtain ⟨a, us, rfl, rfl, r0⟩ := ow
    cases r with
    | cons h1 h2 =>
      cases h2
      cases h1 with
      | lst hb rb =>
        simp only [extT, sh _ _ one_same, s _ _ hb]
        exact ⟨by rw [r0.length, rb.length]; exact hh.1, k _ _ _ _ _ _ rfl rfl hh.2 .non ⟨a, _, rfl, rfl, r0.app rb⟩⟩⟩
theorem RpL.dropLast {F : Gp} {ts : List T} {ps : List PV} (r : RpL F ts ps) : RpL F ts.dropLast ps.dropLast := by
  rw [List.dropLast_eq_take, List.dropLast_eq_take, r.length]
  exact r.take _
def popP : PV → List PV → (PV → PV → Prop) → Prop
  | .lst xs, [], k => (match xs[xs.length - 1]? with
    | some u => k u (.lst xs.dropLast)
    | none => False)
  | .lst xs, [.int i], k => (0 ≤ i ∧ i < 2 ^ 63) ∧ (match xs[i.toNat]? with
    | some u => k u (.lst (xs.eraseIdx i.toNat))
    | none => False)
  | _, _, _ => False
theorem mv_pop : MutV "list" kdL popT popP := ⟨kdL_ok, fun F G H t p ts ps Ψ Φ s ow sh _ r hh k => by
  match p, ps, hh with
  | .lst xs, [], hh =>
    obtain ⟨a, us, rfl, rfl, r0⟩ := ow
    cases r
    simp only [popT, sh _ _ one_same]
    simp only [popP] at hh
    split at hh
    · rename_i u e
      obtain ⟨t, e1, e2⟩ := r0.get e
      rw [r0.length, e1]
      exact k _ _ _ _ _ _ rfl rfl hh e2 ⟨a, _, rfl, rfl, r0.dropLast⟩
    · exact hh.elim
  | .lst xs, [.int i], hh =>
    obtain ⟨a, us, rfl, rfl, r0⟩ := ow
    cases r with
    | cons h1 h2 =>
      cases h2
      cases h1
      simp only [popT, sh _ _ one_same]
      simp only [popP] at hh
      refine ⟨hh.1, ?_⟩
      have hh := hh.2
      split at hh
      · rename_i u e
        obtain ⟨t, e1, e2⟩ := r0.get e
        rw [e1]
        exact k _ _ _ _ _ _ rfl rfl hh e2 ⟨a, _, rfl, rfl, r0.erase _⟩
      · exact hh.elim⟩
def insP : PV → List PV → (PV → PV → Prop) → Prop
  | .lst xs, [.int i, u], k => xs.length < sizeLine ∧ (0 ≤ i ∧ i < 2 ^ 63) ∧ k .non (.lst (xs.take i.toNat ++ [u] ++ xs.drop i.toNat))
  | _, _, _ => False
theorem mv_insert : MutV "list" kdL insT insP := ⟨kdL_ok, fun F G H t p ts ps Ψ Φ s ow sh _ r hh k => by
  match p, ps, hh with
  | .lst xs, [.int i, u], hh =>
    obtain ⟨a, us, rfl, rfl, r0⟩ := ow
    cases r with
    | cons h1 h2 =>
      cases h2 with
      | cons h2 h3 =>
        cases h3
        cases h1
        simp only [insT, sh _ _ one_same]
        exact ⟨by rw [r0.length]; exact hh.1, hh.2.1, k _ _ _ _ _ _ rfl rfl hh.2.2 .non ⟨a, _, rfl, rfl, ((r0.take _).app (.cons h2 .nil)).app (r0.drop _)⟩⟩⟩
/-- d.update(e): what e makes is owned by nobody, or by another name -/
def owD (σ : SV) : RV → Option (List (Key × PV))
  | .v (.ow (.dic kvs)) => some kvs
  | .sl j => (match σ j with
    | some (.ow (.dic kvs)) => some kvs
    | _ => none)
  | _ => none
def vUpd (i : Nat) (va : VE) : VE := fun σ Ψ => (match σ i with
    | some (.ow p) => kdD p = true
    | _ => False) ∧ va σ fun r σ1 => match owD σ1 r, σ1 i with
  | some more, some (.ow (.dic kvs)) => (match r with
    | .sl j => j ≠ i
    | _ => True) ∧ kvs.length + more.length ≤ sizeLine ∧ Ψ (.v (.fr .non)) (vset σ1 i (some (.ow (.dic (dmergeP kvs more)))))
  | _, _ => False
theorem ev_upd {i : Nat} (he : ∀ l, Ea en X [a] l → E en X e (lBM "dict" updT (lVar i) l)) (ha : Ev en X io a va) (hs : starEach [a] X.env = (false, eval a X.env) :: starEach [] X.env := by rfl) : Ev en X io e (vUpd i va) := weakL (he _ (ea_cons ha ea_nil hs)) fun S G Φ ⟨w, F, own, σ, Ψ, g, ⟨q0, q⟩, k⟩ => by
  cases e0 : σ i with
  | none => rw [e0] at q0; exact q0.elim
  | some c0 =>
    rw [e0] at q0
    cases c0 with
    | ow p0 =>
      obtain ⟨t, ht, hc⟩ := g.cell i _ e0
      refine var_at G _ t ht ⟨kdD_ok _ _ _ _ _ hc (g.owG i) q0, ?_⟩
      refine ⟨w, F, own, σ, _, g, q, fun r σ1 F1 own1 G1 u q1 x1 g1 r1 => ?_⟩
      split at q1
      · rename_i more kvs em ek
        obtain ⟨t2, ht2, hc2⟩ := g1.cell i _ ek
        rw [ht] at ht2
        cases ht2
        obtain ⟨a, us, rfl, ho, r0⟩ := hc2
        have hG : G1 a = some (.dic us) := g1.owG i _ _ (by rw [ho]; exact one_same)
        have hb : ∃ b ws, u = .ref b ∧ G1 b = some (.dic ws) ∧ RpD F1 ws more ∧ a ≠ b := by
          cases r with
          | v c =>
            obtain ⟨H, h1, h2⟩ := r1
            cases c with
            | ow p =>
              cases p with
              | dic kv =>
                cases em
                obtain ⟨b, ws, rfl, rfl, r3⟩ := h1
                refine ⟨b, ws, rfl, h2.sub _ _ one_same, r3, fun z => ?_⟩
                subst z
                have := h2.dO a i (by rw [one_same]; simp)
                rw [ho, one_same] at this
                cases this
              | _ => cases em
            | _ => cases em
          | sl j =>
            have r1 : S[j]? = some (some u) := r1
            simp only [owD] at em
            split at em
            · rename_i kv ej
              cases em
              obtain ⟨t3, ht3, hc3⟩ := g1.cell j _ ej
              rw [r1] at ht3
              cases ht3
              obtain ⟨b, ws, rfl, ho2, r3⟩ := hc3
              refine ⟨b, ws, rfl, g1.owG j _ _ (by rw [ho2]; exact one_same), r3, fun z => ?_⟩
              subst z
              have := g1.dis j i a q1.1 (by rw [ho2, one_same]; simp)
              rw [ho, one_same] at this
              cases this
            · cases em
        obtain ⟨b, ws, rfl, hb1, rb, hab⟩ := hb
        simp only [lNil, updT, hG, hb1]
        obtain ⟨own3, g3, x3⟩ := g1.mut (o' := .dic (dmerge us ws)) (c := .ow (.dic (dmergeP kvs more))) ho ⟨.ref a, ht, a, _, rfl, rfl, rb.merge r0⟩
        exact ⟨hab, by rw [r0.length, rb.length]; exact q1.2.1, k _ _ _ _ _ _ q1.2.2 (x1.trans x3) g3 ⟨nil0, .non, .nil⟩⟩
      · exact q1.elim
    | _ => exact q0.elim
/-! a[i] = v -/
def vStore (i : Nat) (vi vv : VE) : VS := fun L σ => vv σ fun r σ1 => match tk σ1 r with
  | some (p, σ2) => (σ2 i).isSome = true ∧ vi σ2 fun r2 σ3 => (match rd σ3 r2, σ3 i with
    | some (.int k), some (.ow (.lst xs)) => (match ixN xs.length k with
      | some j => L.nx (vset σ3 i (some (.ow (.lst (xs.set j p)))))
      | none => False)
    | some q, some (.ow (.dic kvs)) => (match keyP q with
      | some y => kvs.length < sizeLine ∧ L.nx (vset σ3 i (some (.ow (.dic (dputP kvs y p)))))
      | none => False)
    | _, _ => False)
  | none => False
theorem evs_store {i : Nat} {st : Stmt} (he : ∀ li lv, E en X a li → E en X b lv → Es en X st (lSet (lVar i) li lv)) (hi : Ev en X io a va) (hv : Ev en X io b vb) : Evs en X io st (vStore i va vb) := weakS (he _ _ hi hv) fun L S G ⟨w, F, own, σ, VL, g, q, kk⟩ => by
  refine ⟨w, F, own, σ, _, g, q, fun r σ1 F1 own1 G1 tv q1 x1 g1 r1 => ?_⟩
  split at q1
  · rename_i p σ2 e1
    obtain ⟨F2, own2, g2, x2, rp⟩ := g1.tk r1 e1
    obtain ⟨q0, q1⟩ := q1
    obtain ⟨c0, e0⟩ := Option.isSome_iff_exists.mp q0
    obtain ⟨t, ht, _⟩ := g2.cell i c0 e0
    refine var_at G1 _ t ht ?_
    refine ⟨w, F2, own2, σ2, _, g2, q1, fun r2 σ3 F3 own3 G3 u q3 x3 g3 r3 => ?_⟩
    have x := (x1.trans x2).trans x3
    split at q3
    · rename_i k xs e2 e3
      obtain ⟨t', ht', hc⟩ := g3.cell i _ e3
      rw [ht] at ht'
      cases ht'
      obtain ⟨a, us, rfl, ho, r0⟩ := hc
      obtain rfl : u = .int k := g3.rdV r3 e2
      have hG : G3 a = some (.lst us) := g3.owG i _ _ (by rw [ho]; exact one_same)
      split at q3
      · rename_i j ej
        rw [← r0.length] at ej
        simp only [setT, hG, ej]
        obtain ⟨own4, g4, x4⟩ := g3.mut (o' := .lst (us.set j tv)) (c := .ow (.lst (xs.set j p))) ho ⟨.ref a, ht, a, _, rfl, rfl, r0.set (rp.sub x3.sub) j⟩
        exact kk.nx _ _ _ _ _ q3 (x.trans x4) g4
      · exact q3.elim
    · rename_i q kvs e2 e3
      obtain ⟨t', ht', hc⟩ := g3.cell i _ e3
      rw [ht] at ht'
      cases ht'
      obtain ⟨a, us, rfl, ho, r0⟩ := hc
      have hG : G3 a = some (.dic us) := g3.owG i _ _ (by rw [ho]; exact one_same)
      split at q3
      · rename_i y ey
        obtain ⟨rfl, kt⟩ := keyP_T ((g3.rdV r3 e2).rp g3.sub) ey
        simp only [setT, hG, kt]
        obtain ⟨own4, g4, x4⟩ := g3.mut (o' := .dic (dput us (kT y) tv)) (c := .ow (.dic (dputP kvs y p))) ho ⟨.ref a, ht, a, _, rfl, rfl, r0.put (rp.sub x3.sub)⟩
        exact ⟨by rw [r0.length]; exact q3.1, kk.nx _ _ _ _ _ q3.2 (x.trans x4) g4⟩
      · exact q3.elim
    · exact q3.elim
  · exact q1.elim
/-! d.get -/
def isDP : Option PV → Prop
  | some (.dic _) => True
  | _ => False
def vGet1 (va vb : VE) : VE := fun σ Ψ => va σ fun r σ1 => match fz r with
  | some r => isDP (rd σ1 r) ∧ vb σ1 fun r2 σ2 => (match rd σ2 r, rd σ2 r2 with
    | some (.dic kvs), some q => (match keyP q with
      | some y => Ψ (.v (.fr ((dgetP kvs y).getD .non))) σ2
      | none => False)
    | _, _ => False)
  | none => False
theorem isD_ok {F G : Gp} {t : T} {p : Option PV} (h : isDP p) (r : ∀ q, p = some q → RdR F G t q) : isDT t G := by
  match p, h with
  | some (.dic kvs), _ =>
    obtain ⟨a, ts, rfl, h1, _⟩ := r _ rfl
    rcases dicAt_or h1 with h1 | ⟨ob, raw, h1⟩ <;> simp [isDT, h1]
theorem get_ok {F G : Gp} {t u : T} {kvs : List (Key × PV)} {q : PV} {y : Key} {Ψ : Option T → Prop} (s : Sub F G) (r : RdR F G t (.dic kvs)) (r2 : RdR F G u q) (ey : keyP q = some y) (k : ∀ o, (dgetP kvs y = none ∧ o = none) ∨ (∃ p t', dgetP kvs y = some p ∧ o = some t' ∧ Rp F t' p) → Ψ o) : getT t u G Ψ := by
  obtain ⟨a, ts, rfl, h1, rd⟩ := r
  obtain ⟨rfl, kt⟩ := keyP_T (r2.rp s) ey
  have hk : Ψ (dlook ts (kT y)) := by
    rcases rd.look (k := y) with ⟨e1, e2⟩ | ⟨t', p, e1, e2, e3⟩
    · exact k _ (.inl ⟨e2, e1⟩)
    · exact k _ (.inr ⟨p, t', e2, e1, e3⟩)
  rcases dicAt_or h1 with h1 | ⟨ob, raw, h1⟩
  · simp only [getT, h1, kt]; exact hk
  · simp only [getT, h1, kt]; exact hk
theorem ev_get1 (he : ∀ la lb, E en X a la → E en X b lb → E en X e (lGet1 la lb)) (ha : Ev en X io a va) (hb : Ev en X io b vb) : Ev en X io e (vGet1 va vb) := weakL (he _ _ ha hb) fun S G Φ ⟨w, F, own, σ, Ψ, g, q, k⟩ => by
  refine ⟨w, F, own, σ, _, g, q, fun r1 σ1 F1 own1 G1 t q1 x1 g1 r1' => ?_⟩
  split at q1
  · rename_i r0 e0
    obtain ⟨F2, g2, x2, ar⟩ := g1.fz r1' e0
    refine ⟨isD_ok q1.1 fun q e => g2.rdA ar e, w, F2, own1, σ1, _, g2, q1.2, fun r2 σ2 F3 own3 G3 u q3 x3 g3 r3 => ?_⟩
    split at q3
    · rename_i kvs q e1 e2
      split at q3
      · rename_i y ey
        refine get_ok g3.sub (g3.rdA (ar.sub x3.sub) e1) (g3.rdV r3 e2) ey fun o ho => ?_
        rcases ho with ⟨h1, rfl⟩ | ⟨p, t', h1, rfl, h3⟩
        · rw [h1] at q3; exact k _ _ _ _ _ _ q3 ((x1.trans x2).trans x3) g3 ⟨nil0, .non, .nil⟩
        · rw [h1] at q3; exact k _ _ _ _ _ _ q3 ((x1.trans x2).trans x3) g3 ⟨nil0, h3, .nil⟩
      · exact q3.elim
    · exact q3.elim
  · exact q1.elim
def vGet2 (va vb vc : VE) : VE := fun σ Ψ => va σ fun r σ1 => match fz r with
  | some r => isDP (rd σ1 r) ∧ vb σ1 fun r2 σ2 => (match fz r2 with
    | some r2 => vc σ2 fun r3 σ3 => (match rd σ3 r, rd σ3 r2 with
      | some (.dic kvs), some q => (match keyP q with
        | some y => (match dgetP kvs y with
          | some p => Ψ (.v (.fr p)) σ3
          | none => Ψ r3 σ3)
        | none => False)
      | _, _ => False)
    | none => False)
  | none => False
theorem ev_get2 (he : ∀ la lb lc, E en X a la → E en X b lb → E en X c lc → E en X e (lGet2 la lb lc)) (ha : Ev en X io a va) (hb : Ev en X io b vb) (hc : Ev en X io c vc) : Ev en X io e (vGet2 va vb vc) := weakL (he _ _ _ ha hb hc) fun S G Φ ⟨w, F, own, σ, Ψ, g, q, k⟩ => by
  refine ⟨w, F, own, σ, _, g, q, fun r1 σ1 F1 own1 G1 t q1 x1 g1 r1' => ?_⟩
  split at q1
  · rename_i r0 e0
    obtain ⟨F2, g2, x2, ar⟩ := g1.fz r1' e0
    refine ⟨isD_ok q1.1 fun q e => g2.rdA ar e, w, F2, own1, σ1, _, g2, q1.2, fun r2 σ2 F3 own3 G3 u q3 x3 g3 r3 => ?_⟩
    split at q3
    · rename_i r20 e20
      obtain ⟨F4, g4, x4, ar2⟩ := g3.fz r3 e20
      refine ⟨w, F4, own3, σ2, _, g4, q3, fun r5 σ5 F5 own5 G5 z q5 x5 g5 r5' => ?_⟩
      have x := (((x1.trans x2).trans x3).trans x4).trans x5
      split at q5
      · rename_i kvs q e1 e2
        split at q5
        · rename_i y ey
          refine get_ok g5.sub (g5.rdA (((ar.sub x3.sub).sub x4.sub).sub x5.sub) e1) (g5.rdA (ar2.sub x5.sub) e2) ey fun o ho => ?_
          rcases ho with ⟨h1, rfl⟩ | ⟨p, t', h1, rfl, h3⟩
          · rw [h1] at q5; exact k _ _ _ _ _ _ q5 x g5 r5'
          · rw [h1] at q5; exact k _ _ _ _ _ _ q5 x g5 ⟨nil0, h3, .nil⟩
        · exact q5.elim
      · exact q5.elim
    · exact q3.elim
  · exact q1.elim
/-! {k: v, ..} -/
abbrev VPs := SV → (List (Key × PV) → SV → Prop) → Prop
def lowVP (N : Nat) (io : List Nat) (vp : VPs) : LPs := fun S G Φ => ∃ w F own σ Ψ, VRel (fxo N io w) F own S G σ ∧ vp σ Ψ ∧ ∀ ps σ' F' own' G' ts, Ψ ps σ' → Ext F F' → VRel (fxo N io w) F' own' S G' σ' → RpD F' ts ps → Φ ts G'
def Evp (en : En) (X : Cx) (io : List Nat) (pos : Pos) (keys : List (Option Expr)) (values : List Expr) (vp : VPs) : Prop := Ep en X pos keys values (lowVP X.N.length io vp)
theorem weakP {keys : List (Option Expr)} {values : List Expr} {l l' : LPs} (h : Ep en X pos keys values l) (w : ∀ S G Φ, l' S G Φ → l S G Φ) : Ep en X pos keys values l' := by
  obtain ⟨trs, h1, h2⟩ := h.ex
  exact ⟨trs, h1, fun σ H Q ⟨S, G, Φ, s, g, q, k⟩ => h2 σ H Q ⟨S, G, Φ, s, g, w S G Φ q, k⟩⟩
def vPNil : VPs := fun σ Ψ => Ψ [] σ
def vPCons (vk vv : VE) (vr : VPs) : VPs := fun σ Ψ => vk σ fun r σ1 => match (rd σ1 r).bind keyP with
  | some y => vv σ1 fun r2 σ2 => (match tk σ2 r2 with
    | some (p, σ3) => vr σ3 fun ps σ4 => Ψ ((y, p) :: ps) σ4
    | none => False)
  | none => False
theorem evp_nil : Evp en X io pos [] [] vPNil := weakP p_nil fun S G Φ ⟨w, F, own, σ, Ψ, g, q, k⟩ => k _ _ _ _ _ _ q .refl g .nil
theorem evp_cons {ks : List (Option Expr)} {vr : VPs} (hk : Ev en X io a va) (hv : Ev en X io b vb) (hr : Evp en X io pos ks es vr) : Evp en X io pos (some a :: ks) (b :: es) (vPCons va vb vr) := weakP (p_cons hk hv hr) fun S G Φ ⟨w, F, own, σ, Ψ, g, q, k⟩ => by
  refine ⟨w, F, own, σ, _, g, q, fun r σ1 F1 own1 G1 t q1 x1 g1 r1 => ?_⟩
  split at q1
  · rename_i y ey
    cases e0 : rd σ1 r with
    | none => rw [e0] at ey; cases ey
    | some p0 =>
      rw [e0] at ey
      obtain ⟨rfl, kt⟩ := keyP_T ((g1.rdV r1 e0).rp g1.sub) ey
      refine ⟨w, F1, own1, σ1, _, g1, q1, fun r2 σ2 F2 own2 G2 u q2 x2 g2 r2' => ?_⟩
      split at q2
      · rename_i p σ3 e3
        obtain ⟨F3, own3, g3, x3, rp⟩ := g2.tk r2' e3
        exact ⟨w, F3, own3, σ3, _, g3, q2, fun ps σ4 F4 own4 G4 ts q4 x4 g4 rd4 => k _ _ _ _ _ _ q4 (((x1.trans x2).trans x3).trans x4) g4 (.cons (rp.sub x4.sub) rd4)⟩
      · exact q2.elim
  · exact q1.elim
def vDisp (vp : VPs) : VE := fun σ Ψ => vp σ fun ps σ1 => ps.length ≤ 15 ∧ Ψ (.v (.ow (.dic (dmergeP [] ps)))) σ1
theorem kt_some : ∀ y : Key, (keyT (kT y)).isSome = true
  | .inl _ => rfl
  | .inr _ => rfl
theorem RpD.allk {F : Gp} : ∀ {ts : List (T × T)} {ps : List (Key × PV)}, RpD F ts ps → (ts.all fun kv => (keyT kv.1).isSome) = true
  | _, _, .nil => rfl
  | _, _, .cons _ r => by rw [List.all_cons, RpD.allk r, Bool.and_true]; exact kt_some _
theorem ev_disp {keys : List (Option Expr)} {vp : VPs} (h : Evp en X io pos keys es vp) (hall : keys.all (·.isSome) = true := by rfl) (hl : keys.length = es.length := by rfl) (h0 : keys ≠ [] := by simp) (h15 : keys.length ≤ 15 := by decide) :
    Ev en X io (.Dict keys es pos) (vDisp vp) := weakL (e_disp h hall hl h0 h15) fun S G Φ ⟨w, F, own, σ, Ψ, g, q, k⟩ => by
  refine ⟨w, F, own, σ, _, g, q, fun ps σ' F' own' G' ts q1 x1 g1 r1 => ⟨r1.allk, by rw [r1.length]; exact q1.1, fun p hp => ?_⟩⟩
  obtain ⟨g4, m4⟩ := g1.fresh (Fresh.new (o := .dic (dmerge [] ts)) hp)
  exact k _ _ _ _ _ _ q1.2 x1 g4 ⟨_, ⟨p, _, rfl, rfl, r1.merge .nil⟩, m4⟩
end
end Vl
namespace Vl
open PySem PySem.Spec PyProof.Rows L2 Dv
section
variable {en : En} {X : Cx} {io ioc : List Nat} {n : Nat} {a b c e o tg iter elt kx vx : Expr} {es ifs : List Expr} {st : Stmt} {ss : List Stmt} {va vb vc te tv : VE} {tt : VT} {vl vk : VA} {vs : VS} {vi : VI} {spv : SpV} {dts : List T} {dps : List PV} {pos : Pos} {C : Addr} {m : Str} {f : T → S2 → Option S2} {fv : PV → SV → Option SV} {us : List Nat} {scope : Scope}
/-! ### methods -/
/-- an object of the class, without a field of that name -/
def InsC (C : Addr) (m : Str) : Option Cell → Prop
  | some (.fr (.ins C' fs)) => C' = C ∧ fs.lookup m = none
  | some (.ow (.ins C' fs)) => C' = C ∧ fs.lookup m = none
  | some (.ab R) => ∀ H t, R H t → ∃ a fs, t = .ref a ∧ H a = some (.ins C fs) ∧ fs.lookup m = none
  | _ => False
def InsR (C : Addr) (m : Str) (σ : SV) : RV → Prop
  | .v c => InsC C m (some c)
  | .sl i => InsC C m (σ i)
theorem insC_ok {fx : Fx} {F G : Gp} {own : Nat → Gp} {S : S2} {σ : SV} (g : VRel fx F own S G σ) {t : T} {r : RV} (h : InsR C m σ r) (rr : RvR fx F own S G t r) : ∃ a fs, t = .ref a ∧ G a = some (.ins C fs) ∧ fs.lookup m = none := by
  have key : ∀ {H : Gp} {c : Cell}, InsC C m (some c) → CellR F H t c → Sub H G → ∃ a fs, t = .ref a ∧ G a = some (.ins C fs) ∧ fs.lookup m = none := by
    intro H c hc hr hs
    cases c with
    | fr p =>
      cases p with
      | ins C' fs =>
        obtain ⟨rfl, hm⟩ := hc
        cases hr with
        | ins h1 h2 =>
          refine ⟨_, _, rfl, g.sub _ _ h1, ?_⟩
          rcases h2.look (f := m) with ⟨e1, _⟩ | ⟨t, p, _, e2, _⟩
          · exact e1
          · rw [hm] at e2; cases e2
      | _ => exact hc.elim
    | ow p =>
      cases p with
      | ins C' fs =>
        obtain ⟨rfl, hm⟩ := hc
        obtain ⟨a, ts, rfl, rfl, h2⟩ := hr
        refine ⟨_, _, rfl, hs _ _ one_same, ?_⟩
        rcases h2.look (f := m) with ⟨e1, _⟩ | ⟨t, p, _, e2, _⟩
        · exact e1
        · rw [hm] at e2; cases e2
      | _ => exact hc.elim
    | ab R =>
      obtain ⟨a, fs, h1, h2, h3⟩ := hc H t hr
      exact ⟨a, fs, h1, hs _ _ h2, h3⟩
  cases r with
  | v c =>
    obtain ⟨H, h1, h2⟩ := rr
    exact key h h1 h2.sub
  | sl i =>
    have rr : S[i]? = some (some t) := rr
    have h : InsC C m (σ i) := h
    cases e : σ i with
    | none => rw [e] at h; exact h.elim
    | some c =>
      rw [e] at h
      obtain ⟨t', e1, e2⟩ := g.cell i c e
      rw [rr] at e1
      cases e1
      exact key h e2 (g.owG i)
def vMeth (C : Addr) (m : Str) (n : Nat) (ioc : List Nat) (sp : SpV) (dps : List PV) (va : VE) (vl : VA) : VE := fun σ Ψ => va σ fun r σ0 => InsR C m σ0 r ∧ match fz r with
  | some r => vl σ0 fun rs σ1 => (match argV ioc 0 (r :: rs) σ1 with
    | some (as, σ2) => as.length + dps.length = n ∧ (slA as).Nodup ∧ sp (argS σ2 (as ++ dps.map Sum.inl)) (fun c σr => Ψ (.v c) (backV σr 0 as σ2)) noXV
    | none => False)
  | none => False
theorem low_meth {N : Nat} (hd : ∀ F, RpL F dts dps) : ∀ S G Φ, lowV N io (vMeth C m n ioc spv dps va vl) S G Φ → lMeth C m (lowSpV n ioc spv) dts noX (lowV N io va) (lowVA N io vl) S G Φ := fun S G Φ ⟨w, F, own, σ, Ψ, g, q, k⟩ => by
  refine ⟨w, F, own, σ, _, g, q, fun r σ1 F1 own1 G1 t q1 x1 g1 r1 => ?_⟩
  obtain ⟨a, fs, rfl, hG, hm⟩ := insC_ok g1 q1.1 r1
  simp only [hG]
  refine ⟨trivial, hm, ?_⟩
  have q1 := q1.2
  split at q1
  · rename_i r' e0
    obtain ⟨F2, g2, x2, ar⟩ := g1.fz r1 e0
    refine ⟨w, F2, own1, σ1, _, g2, q1, fun rs σ3 F3 own3 G3 ts q3 x3 g3 ar3 => ?_⟩
    split at q3
    · rename_i as σ4 e4
      obtain ⟨F4, own4, g4, x4, a4⟩ := argV_ok (rs := r' :: rs) (ts := .ref a :: ts) g3 ⟨ar.sub x3.sub, ar3⟩ e4
      have := call_low (ioc := ioc) hd g4 a4 q3.1 q3.2.1 q3.2.2 fun r σ' F' own' G' t h1 x h2 h3 => k r σ' F' own' G' t h1 ((((x1.trans x2).trans x3).trans x4).trans x) h2 h3
      simpa using this
    · exact q3.elim
  · exact q1.elim
theorem ev_meth (hd : ∀ F, RpL F dts dps) (he : ∀ la l, E en X o la → Ea en X es l → E en X e (lMeth C m (lowSpV n ioc spv) dts noX la l)) (ho : Ev en X io o va) (h : Eva en X io es vl) : Ev en X io e (vMeth C m n ioc spv dps va vl) := weakL (he _ _ ho h) (low_meth hd)
theorem ev_meth0 (hd : ∀ F, RpL F dts dps) (he : ∀ la, E en X o la → E en X e (lMeth C m (lowSpV n ioc spv) dts noX la lNil)) (ho : Ev en X io o va) : Ev en X io e (vMeth C m n ioc spv dps va vNil) := weakL (he _ ho) fun S G Φ h => by
  have := low_meth hd S G Φ h
  unfold lMeth at this ⊢
  obtain ⟨w, F, own, σ, Ψ, g, q, k⟩ := this
  refine ⟨w, F, own, σ, Ψ, g, q, fun r σ' F' own' G' t a b c d => ?_⟩
  have h2 := k r σ' F' own' G' t a b c d
  dsimp only at h2 ⊢
  split at h2
  · split at h2
    · exact ⟨h2.1, h2.2.1, ea_lNil _ _ _ h2.2.2⟩
    · exact h2.elim
  · exact h2.elim
/-! a property -/
def InsP (C : Addr) : Option Cell → Prop
  | some (.fr (.ins C' fs)) => C' = C
  | some (.ow (.ins C' fs)) => C' = C
  | some (.ab R) => ∀ H t, R H t → ∃ a fs, t = .ref a ∧ H a = some (.ins C fs)
  | _ => False
def InsQ (C : Addr) (σ : SV) : RV → Prop
  | .v c => InsP C (some c)
  | .sl i => InsP C (σ i)
theorem insP_ok {fx : Fx} {F G : Gp} {own : Nat → Gp} {S : S2} {σ : SV} (g : VRel fx F own S G σ) {t : T} {r : RV} (h : InsQ C σ r) (rr : RvR fx F own S G t r) : ∃ a fs, t = .ref a ∧ G a = some (.ins C fs) := by
  have key : ∀ {H : Gp} {c : Cell}, InsP C (some c) → CellR F H t c → Sub H G → ∃ a fs, t = .ref a ∧ G a = some (.ins C fs) := by
    intro H c hc hr hs
    cases c with
    | fr p =>
      cases p with
      | ins C' fs =>
        cases hc
        cases hr with
        | ins h1 h2 => exact ⟨_, _, rfl, g.sub _ _ h1⟩
      | _ => exact hc.elim
    | ow p =>
      cases p with
      | ins C' fs =>
        cases hc
        obtain ⟨a, ts, rfl, rfl, h2⟩ := hr
        exact ⟨_, _, rfl, hs _ _ one_same⟩
      | _ => exact hc.elim
    | ab R =>
      obtain ⟨a, fs, h1, h2⟩ := hc H t hr
      exact ⟨a, fs, h1, hs _ _ h2⟩
  cases r with
  | v c =>
    obtain ⟨H, h1, h2⟩ := rr
    exact key h h1 h2.sub
  | sl i =>
    have rr : S[i]? = some (some t) := rr
    have h : InsP C (σ i) := h
    cases e : σ i with
    | none => rw [e] at h; exact h.elim
    | some c =>
      rw [e] at h
      obtain ⟨t', e1, e2⟩ := g.cell i c e
      rw [rr] at e1
      cases e1
      exact key h e2 (g.owG i)
def vProp (C : Addr) (ioc : List Nat) (sp : SpV) (va : VE) : VE := fun σ Ψ => va σ fun r σ0 => InsQ C σ0 r ∧ match fz r with
  | some r => (match argV ioc 0 [r] σ0 with
    | some (as, σ2) => (slA as).Nodup ∧ sp (argS σ2 as) (fun c σr => Ψ (.v c) (backV σr 0 as σ2)) noXV
    | none => False)
  | none => False
theorem argV_len {ioc : List Nat} : ∀ {rs : List RV} {i : Nat} {σ σ' : SV} {as : List Ag}, argV ioc i rs σ = some (as, σ') → as.length = rs.length
  | [], i, σ, σ', as, e => by cases e; rfl
  | r :: rs, i, σ, σ', as, e => by
    unfold argV at e
    split at e
    · split at e
      · split at e
        · rename_i e1; cases e; exact congrArg Nat.succ (argV_len e1)
        · cases e
      · cases e
    · split at e
      · split at e
        · rename_i e1; cases e; exact congrArg Nat.succ (argV_len e1)
        · cases e
      · cases e
theorem ev_prop (he : ∀ la, E en X o la → E en X e (lProp C (lowSpV 1 ioc spv) la)) (ho : Ev en X io o va) : Ev en X io e (vProp C ioc spv va) := weakL (he _ ho) fun S G Φ ⟨w, F, own, σ, Ψ, g, q, k⟩ => by
  refine ⟨w, F, own, σ, _, g, q, fun r σ1 F1 own1 G1 t q1 x1 g1 r1 => ?_⟩
  obtain ⟨a, fs, rfl, hG⟩ := insP_ok g1 q1.1 r1
  simp only [hG]
  refine ⟨trivial, ?_⟩
  have q1 := q1.2
  split at q1
  · rename_i r' e0
    obtain ⟨F2, g2, x2, ar⟩ := g1.fz r1 e0
    split at q1
    · rename_i as σ4 e4
      obtain ⟨F4, own4, g4, x4, a4⟩ := argV_ok (rs := [r']) (ts := [.ref a]) g2 ⟨ar, trivial⟩ e4
      have := call_low (ioc := ioc) (dts := []) (dps := []) (n := 1) (fun F => .nil) g4 a4 (argV_len e4) q1.1 (by simpa using q1.2) fun r σ' F' own' G' t h1 x h2 h3 => k r σ' F' own' G' t h1 (((x1.trans x2).trans x4).trans x) h2 h3
      simpa using this
    · exact q1.elim
  · exact q1.elim
/-! fields -/
def vFld (C : Addr) (f : Str) (va : VE) : VE := fun σ Ψ => va σ fun r σ1 => match rd σ1 r with
  | some (.ins C' fs) => C' = C ∧ (match fs.lookup f with
    | some u => Ψ (.v (.fr u)) σ1
    | none => False)
  | _ => False
theorem ev_fld {fl : Str} (he : ∀ la, E en X o la → E en X e (lFld C fl la)) (ho : Ev en X io o va) : Ev en X io e (vFld C fl va) := weakL (he _ ho) fun S G Φ ⟨w, F, own, σ, Ψ, g, q, k⟩ => by
  refine ⟨w, F, own, σ, _, g, q, fun r σ1 F1 own1 G1 t q1 x1 g1 r1 => ?_⟩
  split at q1
  · rename_i C' fs e1
    obtain ⟨a, ts, rfl, hG, rf⟩ := g1.rdV r1 e1
    obtain ⟨rfl, q1⟩ := q1
    simp only [hG]
    refine ⟨trivial, ?_⟩
    split at q1
    · rename_i u e2
      rcases rf.look (f := fl) with ⟨_, z⟩ | ⟨t, p, z1, z2, z3⟩
      · rw [e2] at z; cases z
      · rw [e2] at z2
        cases z2
        rw [z1]
        exact k _ _ _ _ _ _ q1 x1 g1 ⟨nil0, z3, .nil⟩
    · exact q1.elim
  · exact q1.elim
def putP (f : Str) (v : PV) : List (Str × PV) → List (Str × PV)
  | [] => [(f, v)]
  | p :: r => if p.1 = f then (f, v) :: r else p :: putP f v r
theorem RpF.put {F : Gp} {f : Str} {t : T} {p : PV} (h : Rp F t p) : ∀ {ts : List (Str × T)} {ps : List (Str × PV)}, RpF F ts ps → RpF F (putT f t ts) (putP f p ps)
  | _, _, .nil => .cons h .nil
  | _, _, .cons (k := j) hr r => by
    unfold putT putP
    by_cases e : j = f
    · subst e
      rw [if_pos rfl, if_pos rfl]
      exact .cons h r
    · rw [if_neg e, if_neg e]
      exact .cons hr (RpF.put h r)
/-- o.f = v of an object that a name owns -/
def vFldS (C : Addr) (f : Str) (i : Nat) (vv : VE) : VS := fun L σ => vv σ fun r σ1 => match tk σ1 r with
  | some (p, σ2) => (match σ2 i with
    | some (.ow (.ins C' fs)) => C' = C ∧ fs.length < 1000 ∧ L.nx (vset σ2 i (some (.ow (.ins C (putP f p fs)))))
    | _ => False)
  | none => False
theorem evs_fld {fl : Str} {i : Nat} (he : ∀ lv, E en X b lv → Es en X st (lFldS C fl (lVar i) lv)) (hv : Ev en X io b vb) : Evs en X io st (vFldS C fl i vb) := weakS (he _ hv) fun L S G ⟨w, F, own, σ, VL, g, q, kk⟩ => by
  refine ⟨w, F, own, σ, _, g, q, fun r σ1 F1 own1 G1 tv q1 x1 g1 r1 => ?_⟩
  split at q1
  · rename_i p σ2 e1
    obtain ⟨F2, own2, g2, x2, rp⟩ := g1.tk r1 e1
    split at q1
    · rename_i C' fs e2
      obtain ⟨t, ht, hc⟩ := g2.cell i _ e2
      obtain ⟨a, us, rfl, ho, r0⟩ := hc
      obtain ⟨rfl, hl, q1⟩ := q1
      refine var_at G1 _ _ ht ?_
      have hG : G1 a = some (.ins C' us) := g2.owG i _ _ (by rw [ho]; exact one_same)
      simp only [hG]
      obtain ⟨own4, g4, x4⟩ := g2.mut (o' := .ins C' (putT fl tv us)) (c := .ow (.ins C' (putP fl p fs))) ho ⟨.ref a, ht, a, _, rfl, rfl, r0.put rp⟩
      exact ⟨trivial, by rw [r0.length]; exact hl, kk.nx _ _ _ _ _ q1 ((x1.trans x2).trans x4) g4⟩
    · exact q1.elim
  · exact q1.elim
/-! ### keywords -/
def vApp (va vk : VA) : VA := fun σ Ψ => va σ fun rs σ1 => vk σ1 fun rs' σ2 => Ψ (rs ++ rs') σ2
theorem ArL.app {F : Gp} {S : S2} {us : List T} {qs : List RV} (h2 : ArL F S us qs) : ∀ {ts : List T} {rs : List RV}, ArL F S ts rs → ArL F S (ts ++ us) (rs ++ qs)
  | [], [], _ => h2
  | _ :: _, _ :: _, h => ⟨h.1, ArL.app h2 h.2⟩
  | [], _ :: _, h => h.elim
  | _ :: _, [], h => h.elim
theorem ArL.len {F : Gp} {S : S2} : ∀ {ts : List T} {rs : List RV}, ArL F S ts rs → ts.length = rs.length
  | [], [], _ => rfl
  | _ :: _, _ :: _, h => congrArg Nat.succ (ArL.len h.2)
  | [], _ :: _, h => h.elim
  | _ :: _, [], h => h.elim
def vCallN (n0 m0 n : Nat) (ioc : List Nat) (sp : SpV) (va vk : VA) : VE := fun σ Ψ => va σ fun rs σ1 => vk σ1 fun rs' σ2 => rs.length = n0 ∧ rs'.length = m0 ∧ match argV ioc 0 (rs ++ rs') σ2 with
  | some (as, σ3) => as.length = n ∧ (slA as).Nodup ∧ sp (argS σ3 as) (fun c σr => Ψ (.v c) (backV σr 0 as σ3)) noXV
  | none => False
theorem ev_callN {n0 m0 : Nat} {kws : List Keyword} (he : ∀ l lk, Ea en X es l → Ek en X kws lk → E en X e (lCallN n0 m0 (lowSpV n ioc spv) (fun ts us => ts ++ us) noX l lk)) (h : Eva en X io es vl) (hk : Evk en X io kws vk) : Ev en X io e (vCallN n0 m0 n ioc spv vl vk) := weakL (he _ _ h hk) fun S G Φ ⟨w, F, own, σ, Ψ, g, q, k⟩ => by
  refine ⟨w, F, own, σ, _, g, q, fun rs σ1 F1 own1 G1 ts q1 x1 g1 r1 => ?_⟩
  refine ⟨w, F1, own1, σ1, _, g1, q1, fun rs' σ2 F2 own2 G2 ts' q2 x2 g2 r2 => ?_⟩
  obtain ⟨h1, h2, q2⟩ := q2
  refine ⟨r1.len.trans h1, r2.len.trans h2, ?_⟩
  split at q2
  · rename_i as σ3 e3
    obtain ⟨F3, own3, g3, x3, a3⟩ := argV_ok g2 (ArL.app r2 (ArL.sub x2.sub r1)) e3
    have := call_low (ioc := ioc) (dts := []) (dps := []) (n := n) (fun F => .nil) g3 a3 q2.1 q2.2.1 (by simpa using q2.2.2) fun r σ' F' own' G' t h1 x h2 h3 => k r σ' F' own' G' t h1 (((x1.trans x2).trans x3).trans x) h2 h3
    simpa using this
  · exact q2.elim
/-! ### new objects -/
def conS (c : Cell) (σ : SV) : SV := fun i => match i with
  | 0 => some c
  | i + 1 => σ i
theorem VRel.ext {N : Nat} {w : Fq} {F G : Gp} {own : Nat → Gp} {S : S2} {σ : SV} (g : VRel (fxo N io w) F own S G σ) {x : Addr} (hx : G x = none) :
    VRel (fxo (N + 1) [] w) F (oset own N (one x (.ins C []))) (S ++ [some (.ref x)]) (gup G x (.ins C [])) (vset σ N (some (.ow (.ins C [])))) := by
  obtain ⟨g1, m1⟩ := g.fresh (Fresh.new (o := .ins C []) hx)
  have hS : S.length = N := g.len
  have lt : ∀ {i : Nat} {c : Cell}, σ i = some c → i < N := fun h => g.lt h
  refine ⟨by rw [List.length_append, hS]; rfl, (by intro i hi; cases hi), g1.sub, g1.frs, g1.frF, fun i a o e => ?_, fun i a e => ?_, fun i j a hij e => ?_, fun i c e => ?_⟩
  · by_cases z : i = N
    · subst z; rw [oset_same] at e; exact m1.sub _ _ e
    · rw [oset_ne z] at e; exact g1.owG i _ _ e
  · by_cases z : i = N
    · subst z; rw [oset_same] at e; exact m1.dF a e
    · rw [oset_ne z] at e; exact g1.owF i a e
  · by_cases z : i = N
    · subst z
      rw [oset_same] at e
      rw [oset_ne (fun y => hij y.symm)]
      exact m1.dO a j e
    · rw [oset_ne z] at e
      by_cases y : j = N
      · subst y
        rw [oset_same]
        cases q : one x (.ins C []) a with
        | none => rfl
        | some o => exact absurd (m1.dO a i (by rw [q]; simp)) e
      · rw [oset_ne y]; exact g1.dis i j a hij e
  · by_cases z : i = N
    · subst z
      rw [vset_ap, if_pos rfl] at e
      cases e
      rw [oset_same]
      exact ⟨.ref x, by rw [List.getElem?_append_right (by omega), hS]; simp, x, [], rfl, rfl, .nil⟩
    · rw [vset_ap, if_neg z] at e
      obtain ⟨t, e1, e2⟩ := g1.cell i c e
      rw [oset_ne z]
      exact ⟨t, by rw [List.getElem?_append_left (by rw [hS]; exact lt e)]; exact e1, e2⟩
theorem VRel.unext {N : Nat} {w : Fq} {F F0 G G0 : Gp} {own own0 : Nat → Gp} {S : S2} {σ σ0 : SV} (g0 : VRel (fxo N io w) F0 own0 S G0 σ0) {x : T} (g : VRel (fxo (N + 1) [] w) F own (S ++ [some x]) G σ) {c : Cell} (h : σ N = some c) :
    VRel (fxo N io w) F (oset own N nil0) S G (vset σ N none) ∧ CellR F (own N) x c ∧ Tmp (fxo N io w) F (oset own N nil0) G (own N) := by
  have hS : S.length = N := g0.len
  refine ⟨⟨hS, g0.pin, g.sub, g.frs, g.frF, fun i a o e => ?_, fun i a e => ?_, fun i j a hij e => ?_, fun i d e => ?_⟩, ?_, ⟨g.owG N, fun a e => g.owF N a e, fun a i e => ?_⟩⟩
  · by_cases z : i = N
    · subst z; rw [oset_same] at e; cases e
    · rw [oset_ne z] at e; exact g.owG i _ _ e
  · by_cases z : i = N
    · subst z; rw [oset_same] at e; exact absurd rfl e
    · rw [oset_ne z] at e; exact g.owF i a e
  · by_cases z : i = N
    · subst z; rw [oset_same] at e; exact absurd rfl e
    · rw [oset_ne z] at e
      by_cases y : j = N
      · subst y; rw [oset_same]; rfl
      · rw [oset_ne y]; exact g.dis i j a hij e
  · by_cases z : i = N
    · subst z; rw [vset_ap, if_pos rfl] at e; cases e
    · rw [vset_ap, if_neg z] at e
      obtain ⟨t, e1, e2⟩ := g.cell i d e
      have : i < N + 1 := g.lt e
      rw [List.getElem?_append_left (by omega)] at e1
      rw [oset_ne z]
      exact ⟨t, e1, e2⟩
  · obtain ⟨t, e1, e2⟩ := g.cell N c h
    rw [List.getElem?_append_right (by omega), hS] at e1
    simp at e1
    subst e1
    exact e2
  · by_cases z : i = N
    · subst z; rw [oset_same]; rfl
    · rw [oset_ne z]; exact g.dis N i a (fun y => z y.symm) e
def vMake (C : Addr) (n : Nat) (ioc : List Nat) (sp : SpV) (dps : List PV) (vl : VA) : VE := fun σ Ψ => vl σ fun rs σ1 => match argV ioc 1 rs σ1 with
  | some (as, σ2) => 1 + as.length + dps.length = n ∧ (slA as).Nodup ∧ 0 ∈ ioc ∧ sp (conS (.ow (.ins C [])) (argS σ2 (as ++ dps.map Sum.inl))) (fun c σr => c = .fr .non ∧ match σr 0 with
    | some c0 => Ψ (.v c0) (backV σr 1 as σ2)
    | none => False) noXV
  | none => False
theorem sl_lt {fx : Fx} {F : Gp} {own : Nat → Gp} {S : S2} {G : Gp} {σ : SV} (g : VRel fx F own S G σ) : ∀ {ts : List T} {as : List Ag}, AgL F S ts as → ∀ j ∈ slA as, j < fx.N
  | [], [], _, j, h => by cases h
  | _ :: ts, .inl _ :: as, h, j, hj => sl_lt g (ts := ts) (as := as) h.2 j (by simpa [slA] using hj)
  | _ :: ts, .inr i :: as, h, j, hj => by
    rcases List.mem_cons.mp (by simpa [slA] using hj) with rfl | hj
    · rw [← g.len]
      rcases Nat.lt_or_ge j S.length with z | z
      · exact z
      · have := h.1; rw [List.getElem?_eq_none z] at this; cases this
    · exact sl_lt g (ts := ts) (as := as) h.2 j hj
  | [], _ :: _, h, _, _ => h.elim
  | _ :: _, [], h, _, _ => h.elim
theorem argS_vset {σ : SV} {N : Nat} {c : Option Cell} {as : List Ag} (h : ∀ j ∈ slA as, j < N) : argS (vset σ N c) as = argS σ as := by
  funext i
  unfold argS
  split
  · rename_i a e
    cases a with
    | inl p => rfl
    | inr j =>
      have hj : j ∈ slA as := js_mem (i := i) (by unfold jsA; rw [e])
      show vset σ N c j = σ j
      rw [vset_ap, if_neg (by have := h j hj; omega)]
  · rfl
theorem slA_app {as : List Ag} {dps : List PV} : slA (as ++ dps.map Sum.inl) = slA as := by
  induction as with
  | nil => induction dps with
    | nil => rfl
    | cons p ps ih => simpa [slA] using ih
  | cons a as ih => cases a <;> simp [slA, ih]
theorem vset_self {σ : SV} {N : Nat} (h : σ N = none) : vset σ N none = σ := by
  funext i; simp only [vset]; split
  · rename_i e; rw [e, h]
  · rfl
theorem backV_at {σr : SV} {N : Nat} {c : Option Cell} : ∀ {as : List Ag} {d : Nat} {σ : SV}, (∀ j ∈ slA as, j < N) → vset (backV σr d as (vset σ N c)) N none = vset (backV σr d as σ) N none
  | [], d, σ, h => by funext i; unfold backV; simp only [vset]; split <;> simp_all
  | .inl p :: as, d, σ, h => by unfold backV; exact backV_at (as := as) (fun j hj => h j (by simpa [slA] using hj))
  | .inr j :: as, d, σ, h => by
    unfold backV
    have ih := backV_at (σr := σr) (c := c) (as := as) (d := d + 1) (σ := σ) (fun j hj => h j (by simp [slA, hj]))
    funext i
    have ih := congrFun ih i
    simp only [vset] at ih ⊢
    by_cases e : i = N
    · simp [e]
    · simp only [e, if_false] at ih ⊢
      by_cases e2 : i = j
      · simp [e2]
      · simp only [e2, if_false]; exact ih
theorem backV_none {σr : SV} {N : Nat} : ∀ {as : List Ag} {d : Nat} {σ : SV}, (∀ j ∈ slA as, j < N) → σ N = none → backV σr d as σ N = none
  | [], d, σ, h, e => e
  | .inl p :: as, d, σ, h, e => by unfold backV; exact backV_none (as := as) (fun j hj => h j (by simpa [slA] using hj)) e
  | .inr j :: as, d, σ, h, e => by
    unfold backV
    rw [vset_ap, if_neg (by have := h j (by simp [slA]); omega)]
    exact backV_none (as := as) (fun j hj => h j (by simp [slA, hj])) e
/-- a promise where a new object is made -/
theorem make_low {N : Nat} {w : Fq} {F G : Gp} {own : Nat → Gp} {S : S2} {σ : SV} {ts : List T} {as : List Ag} {Ψ : RV → SV → Prop} {Φ : QT} (hd : ∀ F, RpL F dts dps) (g : VRel (fxo N io w) F own S G σ) (ha : AgL F S ts as) (hl : 1 + as.length + dps.length = n) (hn : (slA as).Nodup)
    (h : spv (conS (.ow (.ins C [])) (argS σ (as ++ dps.map Sum.inl))) (fun c σr => c = .fr .non ∧ match σr 0 with
    | some c0 => Ψ (.v c0) (backV σr 1 as σ)
    | none => False) noXV) (k : ∀ r σ' F' own' G' t, Ψ r σ' → Ext F F' → VRel (fxo N io w) F' own' S G' σ' → RvR (fxo N io w) F' own' S G' t r → Φ t G') {x : Addr} (hx : G x = none) :
    lowSpV n ioc spv (.ref x :: (ts ++ dts)) (gup G x (.ins C [])) (fun t G2 => t = .non ∧ Φ (.ref x) G2) noX := by
  have hS : S.length = N := g.len
  have gx := g.ext (C := C) hx
  have hlt : ∀ j ∈ slA as, j < N := sl_lt g ha
  have hsN : σ N = none := by
    cases e : σ N with
    | none => rfl
    | some c => have := g.lt e; exact absurd this (Nat.lt_irrefl _)
  have hsl : ∀ {ts : List T} {as : List Ag}, AgL F S ts as → AgL F (S ++ [some (.ref x)]) ts as := by
    intro ts
    induction ts with
    | nil => intro as h; cases as <;> exact h
    | cons t ts ih =>
      intro as h
      cases as with
      | nil => exact h.elim
      | cons a as =>
        cases a with
        | inl p => exact ⟨h.1, ih h.2⟩
        | inr j =>
          have hj := h.1
          refine ⟨?_, ih h.2⟩
          rw [List.getElem?_append_left]
          · exact hj
          · rcases Nat.lt_or_ge j S.length with z | z
            · exact z
            · rw [List.getElem?_eq_none z] at hj; cases hj
  have haN : AgL F (S ++ [some (.ref x)]) (.ref x :: ts) (.inr N :: as) := ⟨by rw [List.getElem?_append_right (by omega), hS]; simp, hsl ha⟩
  have hnN : (slA (.inr N :: as)).Nodup := List.nodup_cons.mpr ⟨fun z => Nat.lt_irrefl _ (hlt _ z), hn⟩
  have e1 : argS (vset σ N (some (.ow (.ins C [])))) ((.inr N :: as) ++ dps.map Sum.inl) = conS (.ow (.ins C [])) (argS σ (as ++ dps.map Sum.inl)) := by
    funext i
    cases i with
    | zero => simp [argS, conS, cellOf, vset]
    | succ i =>
      have := congrFun (argS_vset (σ := σ) (N := N) (c := some (.ow (.ins C []))) (as := as ++ dps.map Sum.inl) (by rw [slA_app]; exact hlt)) i
      simpa [argS, conS] using this
  have := call_lowG (N := N + 1) (io := []) (w := w) (n := n) (spv := spv) (ioc := ioc) (as := .inr N :: as) (ts := .ref x :: ts) (Φ := fun t G2 => t = .non ∧ Φ (.ref x) G2) hd gx haN (by rw [List.length_cons]; omega) hnN (by rw [e1]; exact h)
    fun c σr F' own' G' H t hr x' g' rr m => ?_
  · simpa using this
  · obtain ⟨rfl, h0⟩ := hr
    have rr : Rp F' t .non := rr
    cases rr
    cases e0 : σr 0 with
    | none => rw [e0] at h0; exact h0.elim
    | some c0 =>
      rw [e0] at h0
      have g' : VRel (fxo (N + 1) [] w) F' own' (S ++ [some (.ref x)]) G' (vset (backV σr 1 as (vset σ N (some (.ow (.ins C []))))) N (σr 0)) := g'
      obtain ⟨g3, c3, m3⟩ := VRel.unext (c := c0) g g' (by rw [vset_ap, if_pos rfl]; exact e0)
      have e2 : vset (vset (backV σr 1 as (vset σ N (some (.ow (.ins C []))))) N (σr 0)) N none = backV σr 1 as σ := by
        have e3 : vset (vset (backV σr 1 as (vset σ N (some (.ow (.ins C []))))) N (σr 0)) N none = vset (backV σr 1 as (vset σ N (some (.ow (.ins C []))))) N none := by
          funext i; simp only [vset]; split <;> rfl
        rw [e3, backV_at hlt]
        exact vset_self (backV_none hlt hsN)
      rw [e2] at g3
      exact ⟨rfl, k _ _ _ _ _ _ h0 x' g3 ⟨_, c3, m3⟩⟩
theorem ev_make (hd : ∀ F, RpL F dts dps) (he : ∀ l, Ea en X es l → E en X e (lMake C (lowSpV n ioc spv) dts noX l)) (h : Eva en X io es vl) : Ev en X io e (vMake C n ioc spv dps vl) := weakL (he _ h) fun S G Φ ⟨w, F, own, σ, Ψ, g, q, k⟩ => by
  refine ⟨w, F, own, σ, _, g, q, fun rs σ1 F1 own1 G1 ts q1 x1 g1 r1 x hx => ?_⟩
  split at q1
  · rename_i as σ2 e1
    obtain ⟨F2, own2, g2, x2, a2⟩ := argV_ok g1 r1 e1
    exact make_low hd g2 a2 q1.1 q1.2.1 q1.2.2.2 (fun r σ' F' own' G' t h1 x h2 h3 => k r σ' F' own' G' t h1 ((x1.trans x2).trans x) h2 h3) hx
  · exact q1.elim
def vMakeN (C : Addr) (n0 m0 n : Nat) (ioc : List Nat) (sp : SpV) (vl vk : VA) : VE := fun σ Ψ => vl σ fun rs σ1 => vk σ1 fun rs' σ2 => rs.length = n0 ∧ rs'.length = m0 ∧ match argV ioc 1 (rs ++ rs') σ2 with
  | some (as, σ3) => 1 + as.length = n ∧ (slA as).Nodup ∧ 0 ∈ ioc ∧ sp (conS (.ow (.ins C [])) (argS σ3 as)) (fun c σr => c = .fr .non ∧ match σr 0 with
    | some c0 => Ψ (.v c0) (backV σr 1 as σ3)
    | none => False) noXV
  | none => False
theorem ev_makeN {n0 m0 : Nat} {kws : List Keyword} (he : ∀ l lk, Ea en X es l → Ek en X kws lk → E en X e (lMakeK C n0 m0 (lowSpV n ioc spv) (fun ts us => ts ++ us) noX l lk)) (h : Eva en X io es vl) (hk : Evk en X io kws vk) : Ev en X io e (vMakeN C n0 m0 n ioc spv vl vk) := weakL (he _ _ h hk) fun S G Φ ⟨w, F, own, σ, Ψ, g, q, k⟩ => by
  refine ⟨w, F, own, σ, _, g, q, fun rs σ1 F1 own1 G1 ts q1 x1 g1 r1 => ?_⟩
  refine ⟨w, F1, own1, σ1, _, g1, q1, fun rs' σ2 F2 own2 G2 ts' q2 x2 g2 r2 => ?_⟩
  obtain ⟨h1, h2, q2⟩ := q2
  refine ⟨r1.len.trans h1, r2.len.trans h2, fun x hx => ?_⟩
  split at q2
  · rename_i as σ3 e3
    obtain ⟨F3, own3, g3, x3, a3⟩ := argV_ok g2 (ArL.app r2 (ArL.sub x2.sub r1)) e3
    have := make_low (ioc := ioc) (dts := []) (dps := []) (n := n) (fun F => .nil) g3 a3 (by simpa using q2.1) q2.2.1 (by simpa using q2.2.2.2) (fun r σ' F' own' G' t h1 x h2 h3 => k r σ' F' own' G' t h1 (((x1.trans x2).trans x3).trans x) h2 h3) hx
    simpa using this
  · exact q2.elim
end
end Vl
namespace Vl
open PySem PySem.Spec PyProof.Rows L2 Dv
section
variable {en : En} {X : Cx} {io ioc : List Nat} {n : Nat} {a b c e o tg iter elt kx vx : Expr} {es ifs : List Expr} {st : Stmt} {ss : List Stmt} {va vb vc te tk' tv : VE} {tt : VT} {vl vk : VA} {vs : VS} {vi : VI} {pos spos py : Pos} {C : Addr} {m y : Str} {f : T → S2 → Option S2} {fv : PV → SV → Option SV} {us : List Nat} {scope : Scope}
/-! ### x = [..] -/
theorem weakSh {l l' : LS} (h : Es en X st l) (w : Shared → ∀ L S G, l' L S G → l L S G) : Es en X st l' := ⟨fun pins s σ H D I q => h.run pins s σ H D I (let ⟨S, G, L, sr, g, q, k⟩ := q; ⟨S, G, L, sr, g, w s L S G q, k⟩)⟩
theorem evs_setLc (own : List (Str × Nat)) {j : Nat} (hN : X.N.Nodup) (hi : Evi en X io tg iter vi) (hg : AtBlk X scope fun Y => Egv Y io tg f fv (slotsOf own)) (ht : AtBlk X scope fun Y => Evts en Y io ifs tt) (he : AtBlk X scope fun Y => Ev en Y io elt te) (ho : OnlyT f (slotsOf own))
    (hio : ∀ j ∈ slotsOf own, j ∉ io := by decide) (hj : j ∉ io := by decide) (hy : X.N[j]? = some y := by rfl) (hyl : X.env.scope.names.lookup y = some .local := by rfl) (hc : X.calm = true := by rfl) (ok : blkC X.N X.env.scope scope own = true := by rfl) (hs : ∀ x, foldedSetIterable iter X.env x = pure x := by intro _; rfl)
    (hsw : swapsWith (.ListComp elt [⟨tg, iter, ifs, 0⟩] scope pos) (some (.Name y py)) spos.line X.env = pure true := by rfl) :
    Evs en X io (.Assign [.Name y py] (.ListComp elt [⟨tg, iter, ifs, 0⟩] scope pos) spos) (vSet j (vLc vi fv (slotsOf own) tt te)) := by
  have h := s_setLc (w := lowVI X.N.length io vi) (tt := lowVT X.N.length io tt) (te := lowV X.N.length io te) (pos := pos) (spos := spos) (py := py) own hN hi (fun s H C cl fp => (hg s H C cl fp).eg) ht he hy hyl hc ok hs hsw
  exact weakSh h fun s L S G q => low_vLc (hg s (fun _ => none) 0 [] []).gv ho hio S G _ (low_vSet (idx_lt hy) hj L S G q)
/-! ### {k: v for ..} -/
def dcV (fv : PV → SV → Option SV) (us : List Nat) (tt : VT) (tk' tv : VE) (Fin : List (Key × PV) → SV → Prop) : List PV → List (Key × PV) → SV → Prop
  | [], acc, σ => Fin acc σ
  | p :: r, acc, σ => match fv p (vdel σ us) with
    | some σ' => tt σ' fun b σ1 => if b = true then tk' σ1 fun y σ2 => (match (rd σ2 y).bind keyP with
        | some key => tv σ2 fun z σ3 => (match tk σ3 z with
          | some (q, σ4) => acc.length < sizeLine ∧ dcV fv us tt tk' tv Fin r (dputP acc key q) (vdel σ4 us)
          | none => False)
        | none => False) else dcV fv us tt tk' tv Fin r acc (vdel σ1 us)
    | none => False
def vDc (vi : VI) (fv : PV → SV → Option SV) (us : List Nat) (tt : VT) (tk' tv : VE) : VE := fun σ Ψ => vi σ fun ps σ1 => dcV fv us tt tk' tv (fun acc σ2 => Ψ (.v (.ow (.dic acc))) σ2) ps [] (vdel σ1 us)
theorem low_dcV {N : Nat} {w : Fq} (hg : GV N io f fv) (ho : OnlyT f us) (hio : ∀ j ∈ us, j ∉ io) {Keep : Gp → Prop} {Fin : List (Key × PV) → SV → Prop} {FinT : List (T × T) → Gp → Prop} {F0 : Gp} {S : S2}
    (hF : ∀ acc accT F own G σ, Fin acc σ → Ext F0 F → VRel (fxo N io w) F own S G σ → RpD F accT acc → FinT accT G) :
    ∀ (ps : List PV) (ts : List T) (acc : List (Key × PV)) (accT : List (T × T)) (F : Gp) (own : Nat → Gp) (G : Gp) (σ : SV), VRel (fxo N io w) F own S G (vdel σ us) → Ext F0 F → RpL F ts ps → RpD F accT acc → (∀ G'', Sub F G'' → Keep G'') → dcV fv us tt tk' tv Fin ps acc (vdel σ us) →
      dcW Keep f us (lowVT N io tt) (lowV N io tk') (lowV N io tv) FinT S ts accT G
  | [], _, acc, accT, F, own, G, σ, g, x, .nil, ra, hk, q => ⟨hk _ g.sub, hF _ _ _ _ _ _ q x g ra⟩
  | p :: ps, _, acc, accT, F, own, G, σ, g, x, .cons (t := t) (ts := ts) r rs, ra, hk, q => by
    refine ⟨hk _ g.sub, ?_⟩
    simp only [dcV] at q
    split at q
    · rename_i σ' e
      have g0 := g.dels us hio
      obtain ⟨S', own', f1, g1⟩ := hg _ _ _ _ _ _ _ _ _ g0 r e
      rw [f1]
      obtain ⟨hl, hn⟩ := ho _ _ _ f1
      have hl' : S.length = S'.length := by rw [hl, wipe2_len]
      have hn' : ∀ i, i ∉ us → S'[i]? = S[i]? := fun i hi => (hn i hi).trans (wipe2_ne hi)
      refine ⟨w, F, own', σ', _, g1, q, fun b σ1 F1 own1 G1 q1 x1 g2 => ?_⟩
      cases b with
      | false => exact ⟨G1, Sub.refl _, low_dcV hg ho hio hF ps ts acc accT F1 own1 G1 σ1 (g2.outer us hl' hn' hio) (x.trans x1) (rs.sub x1.sub) (ra.sub x1.sub) (fun G'' s => hk _ (x1.sub.trans s)) q1⟩
      | true =>
        refine ⟨w, F1, own1, σ1, _, g2, q1, fun y σ2 F2 own2 G2 ty q2 x2 g3 r3 => ?_⟩
        split at q2
        · rename_i key ek
          cases e0 : rd σ2 y with
          | none => rw [e0] at ek; cases ek
          | some p0 =>
            rw [e0] at ek
            obtain ⟨rfl, kt⟩ := keyP_T ((g3.rdV r3 e0).rp g3.sub) ek
            refine ⟨w, F2, own2, σ2, _, g3, q2, fun z σ3 F3 own3 G3 tz q3 x3 g4 r4 => ?_⟩
            split at q3
            · rename_i u σ4 e4
              obtain ⟨F4, own4, g5, x4, rp⟩ := g4.tk r4 e4
              have xx := ((x1.trans x2).trans x3).trans x4
              exact ⟨by rw [(ra).length]; exact q3.1, kt_some _, G3, Sub.refl _, low_dcV hg ho hio hF ps ts _ _ F4 own4 G3 σ4 (g5.outer us hl' hn' hio) (x.trans xx) (rs.sub xx.sub) ((ra.sub xx.sub).put rp) (fun G'' s => hk _ (xx.sub.trans s)) q3.2⟩
            · exact q3.elim
        · exact q2.elim
    · exact q.elim
theorem low_vDc {N : Nat} (hg : GV N io f fv) (ho : OnlyT f us) (hio : ∀ j ∈ us, j ∉ io) : ∀ S G Φ, lowV N io (vDc vi fv us tt tk' tv) S G Φ → lDc (lowVI N io vi) f us (lowVT N io tt) (lowV N io tk') (lowV N io tv) S G Φ := fun S G Φ ⟨w, F, own, σ, Ψ, g, q, k⟩ => by
  refine ⟨w, F, own, σ, _, g, q, fun ps σ' F' own' G' ts Keep q1 x1 g1 r1 hk => ?_⟩
  have g1' : VRel (fxo N io w) F' own' S G' (vdel σ' us) := g1.outer us rfl (fun _ _ => rfl) hio
  refine low_dcV hg ho hio (F0 := F') (fun acc accT F2 own2 G2 σ2 q2 x2 g2 ra p hp => ?_) ps ts [] [] F' own' G' σ' g1' .refl r1 .nil hk q1
  obtain ⟨g3, m3⟩ := g2.fresh (Fresh.new (o := .dic accT) hp)
  exact k _ _ _ _ _ _ q2 (x1.trans x2) g3 ⟨_, ⟨p, _, rfl, rfl, ra⟩, m3⟩
theorem ev_dc (own : List (Str × Nat)) (hN : X.N.Nodup) (hi : Evi en X io tg iter vi) (hg : AtBlk X scope fun Y => Egv Y io tg f fv (slotsOf own)) (ht : AtBlk X scope fun Y => Evts en Y io ifs tt) (hk : AtBlk X scope fun Y => Ev en Y io kx tk') (hv : AtBlk X scope fun Y => Ev en Y io vx tv) (ho : OnlyT f (slotsOf own))
    (hio : ∀ j ∈ slotsOf own, j ∉ io := by decide) (hc : X.calm = true := by rfl) (ok : blkC X.N X.env.scope scope own = true := by rfl) (hs : ∀ x, foldedSetIterable iter X.env x = pure x := by intro _; rfl) :
    Ev en X io (.DictComp kx vx [⟨tg, iter, ifs, 0⟩] scope pos) (vDc vi fv (slotsOf own) tt tk' tv) := by
  have h := e_dc (w := lowVI X.N.length io vi) (tt := lowVT X.N.length io tt) (tk := lowV X.N.length io tk') (tv := lowV X.N.length io tv) (pos := pos) own hN hi (fun s H C cl fp => (hg s H C cl fp).eg) ht hk hv hc ok hs
  exact weakLs h fun s => low_vDc (hg s (fun _ => none) 0 [] []).gv ho hio
/-! ### a dict is walked -/
theorem Ow.mono {F F' H : Gp} {t : T} {p : PV} (r : Ow F H t p) (s : Le F F') : Ow F' H t p := by
  cases p with
  | lst ps => obtain ⟨a, ts, h1, h2, h3⟩ := r; exact ⟨a, ts, h1, h2, h3.mono s⟩
  | dic ps => obtain ⟨a, ts, h1, h2, h3⟩ := r; exact ⟨a, ts, h1, h2, h3.mono s⟩
  | ins C ps => obtain ⟨a, ts, h1, h2, h3⟩ := r; exact ⟨a, ts, h1, h2, h3.mono s⟩
  | _ => exact r.elim
theorem CellR.mono {F F' H : Gp} {t : T} {c : Cell} (r : CellR F H t c) (s : Le F F') : CellR F' H t c := by
  cases c with
  | fr p => exact Rp.mono s r
  | ow p => exact Ow.mono r s
  | ab R => exact r
theorem Le.relock {F : Gp} {d : Addr} {ts : List (T × T)} {o' : O} (h : dicAt F d = some ts) (h' : dicAt (gup F d o') d = some ts) : Le F (gup F d o') := by
  have nl : ∀ a l, F a = some (.lst l) → a ≠ d := fun a l e z => by subst z; unfold dicAt at h; rw [e] at h; cases h
  have ni : ∀ a C l, F a = some (.ins C l) → a ≠ d := fun a C l e z => by subst z; unfold dicAt at h; rw [e] at h; cases h
  refine ⟨fun a l e => by rw [gup_ne (nl a l e)]; exact e, fun a l e => ?_, fun a C l e => by rw [gup_ne (ni a C l e)]; exact e⟩
  by_cases z : a = d
  · subst z; rw [h] at e; cases e; exact h'
  · unfold dicAt; rw [gup_ne z]; exact e
theorem VRel.relock {fx : Fx} {F G : Gp} {own : Nat → Gp} {S : S2} {σ : SV} (g : VRel fx F own S G σ) {d : Addr} {ts : List (T × T)} {o' : O} (h : dicAt F d = some ts) (h' : dicAt (gup F d o') d = some ts) : VRel fx (gup F d o') own S (gup G d o') σ := by
  have hne : F d ≠ none := fun z => by unfold dicAt at h; rw [z] at h; cases h
  have up : ∀ {M : Gp}, M d = none → Sub M G → Sub M (gup G d o') := fun hm s b u e => by
    rw [gup_ne (fun z => by rw [z, hm] at e; cases e)]
    exact s b u e
  have ne : ∀ a, gup F d o' a ≠ none → F a ≠ none := fun a e => by
    by_cases z : a = d
    · subst z; exact hne
    · rw [gup_ne z] at e; exact e
  have own0 : ∀ i, own i d = none := fun i => by
    cases z : own i d with
    | none => rfl
    | some o => exact absurd (g.owF i d (by rw [z]; simp)).1 hne
  refine ⟨g.len, g.pin, g.sub.gup2, up (g.frF d hne) g.frs, fun a e => g.frF a (ne a e), fun i => up (own0 i) (g.owG i), fun i a e => ⟨?_, (g.owF i a e).2⟩, g.dis, fun i c e => ?_⟩
  · cases z : gup F d o' a with
    | none => rfl
    | some o => exact absurd (g.owF i a e).1 (ne a (by rw [z]; simp))
  · obtain ⟨t, e1, e2⟩ := g.cell i c e
    exact ⟨t, e1, e2.mono (.relock h h')⟩
theorem Tmp.relock {fx : Fx} {F G H : Gp} {own : Nat → Gp} (m : Tmp fx F own G H) {d : Addr} {o' : O} (hne : F d ≠ none) : Tmp fx (gup F d o') own (gup G d o') H := by
  have hd : H d = none := by
    cases z : H d with
    | none => rfl
    | some o => exact absurd (m.dF d (by rw [z]; simp)).1 hne
  refine ⟨fun b u e => ?_, fun a e => ⟨?_, (m.dF a e).2⟩, m.dO⟩
  · rw [gup_ne (fun z => by rw [z, hd] at e; cases e)]; exact m.sub _ _ e
  · rw [gup_ne (fun z => by rw [z] at e; exact e hd)]; exact (m.dF a e).1
theorem RvR.relock {fx : Fx} {F G : Gp} {own : Nat → Gp} {S : S2} {t : T} {r : RV} {d : Addr} {ts : List (T × T)} {o' : O} (h : dicAt F d = some ts) (h' : dicAt (gup F d o') d = some ts) (rr : RvR fx F own S G t r) : RvR fx (gup F d o') own S (gup G d o') t r := by
  cases r with
  | v c =>
    obtain ⟨H, h1, h2⟩ := rr
    exact ⟨H, h1.mono (.relock h h'), h2.relock fun z => by unfold dicAt at h; rw [z] at h; cases h⟩
  | sl i => exact rr
/-- where the dict stands that is walked -/
def LocD (N : Nat) (io : List Nat) (la : LE) (vd : SV → Option (List (Key × PV) × SV)) : Prop := ∀ w F own S G σ kvs σ', VRel (fxo N io w) F own S G σ → vd σ = some (kvs, σ') → ∃ F' own' d ts, VRel (fxo N io w) F' own' S G σ' ∧ Ext F F' ∧ dicAt F' d = some ts ∧ RpD F' ts kvs ∧
  ∀ G' Φ, (∀ a C fs, G a = some (.ins C fs) → G' a = some (.ins C fs)) → Φ (.ref d) G' → la S G' Φ
def vdV (i : Nat) : SV → Option (List (Key × PV) × SV) := fun σ => match tk σ (.sl i) with
  | some (.dic kvs, σ') => some (kvs, σ')
  | _ => none
theorem loc_var {N i : Nat} : LocD N io (lVar i) (vdV i) := fun w F own S G σ kvs σ' g e => by
  unfold vdV at e
  split at e
  · rename_i kv σ1 e1
    cases e
    have : ∃ t, S[i]? = some (some t) := by
      have hs : (σ i).isSome = true := by
        cases z : σ i with
        | none => simp [Vl.tk, Vl.giv, z] at e1
        | some c => rfl
      obtain ⟨c, hc⟩ := Option.isSome_iff_exists.mp hs
      obtain ⟨t, ht, _⟩ := g.cell i c hc
      exact ⟨t, ht⟩
    obtain ⟨t, ht⟩ := this
    obtain ⟨F', own', g', x', rp⟩ := g.tk (r := .sl i) (t := t) ht e1
    cases rp with
    | dic h r => exact ⟨F', own', _, _, g', x', h, r, fun G' Φ _ q => var_at G' Φ _ ht q⟩
  · cases e
def vdF (C : Addr) (f : Str) (i : Nat) : SV → Option (List (Key × PV) × SV) := fun σ => match rd σ (.sl i) with
  | some (.ins C' fs) => (match fs.lookup f with
    | some (.dic kvs) => if C' = C then some (kvs, σ) else none
    | _ => none)
  | _ => none
theorem loc_fld {N i : Nat} {fl : Str} : LocD N io (lFld C fl (lVar i)) (vdF C fl i) := fun w F own S G σ kvs σ' g e => by
  unfold vdF at e
  split at e
  · rename_i C' fs e1
    split at e
    · rename_i kv e2
      split at e
      · rename_i hC
        subst hC
        cases e
        have hs : (σ i).isSome = true := by
          cases z : σ i with
          | none => simp [Vl.rd, z] at e1
          | some c => rfl
        obtain ⟨c, hc⟩ := Option.isSome_iff_exists.mp hs
        obtain ⟨t, ht, _⟩ := g.cell i c hc
        obtain ⟨a, ts, rfl, hG, rf⟩ := g.rdA (r := .sl i) ht e1
        rcases rf.look (f := fl) with ⟨_, z⟩ | ⟨u, p, z1, z2, z3⟩
        · rw [e2] at z; cases z
        · rw [e2] at z2
          cases z2
          cases z3 with
          | dic h r =>
            refine ⟨F, own, _, _, g, .refl, h, r, fun G' Φ hk q => ?_⟩
            refine var_at G' _ _ ht ?_
            simp only [hk a _ _ hG, z1]
            exact ⟨trivial, q⟩
      · cases e
    · cases e
  · cases e
theorem es_or {l l' : LS} (h : Es en X st l) (h' : Es en X st l') : Es en X st (fun L S G => l L S G ∨ l' L S G) := ⟨fun pins s σ H D I ⟨S, G, L, sr, g, q, k⟩ => q.elim (fun q => h.run pins s σ H D I ⟨S, G, L, sr, g, q, k⟩) (fun q => h'.run pins s σ H D I ⟨S, G, L, sr, g, q, k⟩)⟩
theorem e_or2 {l l' : LE} (h : E en X e l) (h' : E en X e l') : E en X e (fun S G Φ => l S G Φ ∨ l' S G Φ) := ⟨fun pins s σ H Q I ⟨S, G, Φ, sr, g, q, k⟩ => q.elim (fun q => h.run pins s σ H Q I ⟨S, G, Φ, sr, g, q, k⟩) (fun q => h'.run pins s σ H Q I ⟨S, G, Φ, sr, g, q, k⟩)⟩
def vForD (vd : SV → Option (List (Key × PV) × SV)) (fv : PV → SV → Option SV) (b : VS) : VS := fun L σ => match vd σ with
  | some (kvs, σ1) => forV L fv b (kvs.map fun kv => kP kv.1) σ1
  | none => False
theorem dicAt_f {F : Gp} {d : Addr} {ob : Obj} {raw : List (Key × V)} {ts : List (T × T)} : dicAt (gup F d (.fdic ob raw ts)) d = some ts := by unfold dicAt; rw [gup_same]
theorem dicAt_d {F : Gp} {d : Addr} {ts : List (T × T)} : dicAt (gup F d (.dic ts)) d = some ts := by unfold dicAt; rw [gup_same]
theorem sub_back {F F' : Gp} {d : Addr} {o o' : O} (h : F d = some o) (s : Sub (gup F d o') F') : Sub F (gup F' d o) := fun a u e => by
  by_cases z : a = d
  · subst z; rw [gup_same, ← h]; exact e
  · rw [gup_ne z]; exact s a u (by rw [gup_ne z]; exact e)
theorem low_vForD {N : Nat} {la : LE} {vd : SV → Option (List (Key × PV) × SV)} (hd : LocD N io la vd) (hg : GV N io f fv) : ∀ L S G, lowVS N io (vForD vd fv vs) L S G → lLock (lFor (lIt la) f (lowVS N io vs)) L S G ∨ lFor (lIt la) f (lowVS N io vs) L S G := fun L S G ⟨w, F, own, σ, VL, g, q, ok⟩ => by
  simp only [vForD] at q
  split at q
  · rename_i kvs σ1 e
    obtain ⟨F1, own1, d, ts, g1, x1, hd1, rd1, hla⟩ := hd _ _ _ _ _ _ _ _ g e
    have ok1 := ok.step x1
    rcases dicAt_or hd1 with hF | ⟨ob, raw, hF⟩
    · refine .inl ⟨d, ?_⟩
      rw [g1.sub _ _ hF]
      intro ob raw
      have hl := g1.relock (o' := .fdic ob raw ts) hd1 dicAt_f
      refine hla _ _ (fun a C fs h => ?_) ?_
      · rw [gup_ne]
        · exact h
        · intro z; subst z; rw [g1.sub _ _ hF] at h; cases h
      · simp only [itT, gup_same]
        have bk : ∀ {F' : Gp} {own' : Nat → Gp} {S' : S2} {G' : Gp} {σ' : SV}, Ext (gup F1 d (.fdic ob raw ts)) F' → VRel (fxo N io w) F' own' S' G' σ' → G' d = some (.fdic ob raw ts) ∧ F' d = some (.fdic ob raw ts) ∧ Ext F1 (gup F' d (.dic ts)) ∧ VRel (fxo N io w) (gup F' d (.dic ts)) own' S' (gup G' d (.dic ts)) σ' := by
          intro F' own' S' G' σ' x' g'
          have h1 : F' d = some (.fdic ob raw ts) := x'.sub _ _ gup_same
          exact ⟨g'.sub _ _ h1, h1, ⟨sub_back hF x'.sub⟩, g'.relock (ts := ts) (by unfold dicAt; rw [h1]) dicAt_d⟩
        refine low_forV hg _ _ _ _ _ _ _ hl (rd1.keysL.mono (.relock hd1 dicAt_f)) (fun G'' s => s _ _ gup_same) ⟨?_, ?_, ?_, ?_⟩ q
        · intro S' G' σ' F' own' q' x' g'
          obtain ⟨h1, h2, h3, h4⟩ := bk x' g'
          exact ⟨h1, ok1.nx _ _ _ _ _ q' h3 h4⟩
        · intro r σ' F' own' S' G' t q' x' g' r'
          obtain ⟨h1, h2, h3, h4⟩ := bk x' g'
          exact ⟨h1, ok1.rt _ _ _ _ _ _ _ q' h3 h4 (r'.relock (ts := ts) (by unfold dicAt; rw [h2]) dicAt_d)⟩
        · intro S' G' σ' F' own' q' x' g'
          obtain ⟨h1, h2, h3, h4⟩ := bk x' g'
          exact ⟨h1, ok1.bk _ _ _ _ _ q' h3 h4⟩
        · intro S' G' σ' F' own' q' x' g'
          obtain ⟨h1, h2, h3, h4⟩ := bk x' g'
          exact ⟨h1, ok1.ct _ _ _ _ _ q' h3 h4⟩
    · refine .inr ?_
      refine hla _ _ (fun a C fs h => h) ?_
      simp only [itT, g1.sub _ _ hF]
      exact low_forV hg _ _ _ _ _ _ _ g1 rd1.keysL (fun G'' s => s _ _ hF) ok1 q
  · exact q.elim
theorem evs_forD {la : LE} {vd : SV → Option (List (Key × PV) × SV)} (hd : LocD X.N.length io la vd) (hp : PassesOwn (model X.prog X.w) X.A X.env X.xe) (hc : X.calm = true) (hi : E en X iter la) (hg : Egv X io tg f fv us) (hb : Evss en X io ss vs)
    (hs : ∀ x, foldedSetIterable iter X.env x = pure x := by intro _; rfl) : Evs en X io (.For tg iter ss [] pos) (vForD vd fv vs) := by
  have h := s_for (pos := pos) hp hc (i_val (tg := tg) hi) hg.eg hb hs
  exact weakS (es_or (s_lock h) h) (low_vForD hd hg.gv)
def vLcD (vd : SV → Option (List (Key × PV) × SV)) (fv : PV → SV → Option SV) (us : List Nat) (tt : VT) (te : VE) : VE := fun σ Ψ => match vd σ with
  | some (kvs, σ1) => lcV fv us tt te (fun acc σ2 => Ψ (.v (.ow (.lst acc))) σ2) (kvs.map fun kv => kP kv.1) [] (vdel σ1 us)
  | none => False
theorem low_vLcD {N : Nat} {la : LE} {vd : SV → Option (List (Key × PV) × SV)} (hd : LocD N io la vd) (hg : GV N io f fv) (ho : OnlyT f us) (hio : ∀ j ∈ us, j ∉ io) : ∀ S G Φ, lowV N io (vLcD vd fv us tt te) S G Φ → lLockE (lLc (lIt la) f us (lowVT N io tt) (lowV N io te)) S G Φ ∨ lLc (lIt la) f us (lowVT N io tt) (lowV N io te) S G Φ := fun S G Φ ⟨w, F, own, σ, Ψ, g, q, k⟩ => by
  simp only [vLcD] at q
  split at q
  · rename_i kvs σ1 e
    obtain ⟨F1, own1, d, ts, g1, x1, hd1, rd1, hla⟩ := hd _ _ _ _ _ _ _ _ g e
    rcases dicAt_or hd1 with hF | ⟨ob, raw, hF⟩
    · refine .inl ⟨d, ?_⟩
      rw [g1.sub _ _ hF]
      intro ob raw
      have hl := g1.relock (o' := .fdic ob raw ts) hd1 dicAt_f
      refine hla _ _ (fun a C fs h => ?_) ?_
      · rw [gup_ne]
        · exact h
        · intro z; subst z; rw [g1.sub _ _ hF] at h; cases h
      · simp only [itT, gup_same]
        have hl' := hl.outer us rfl (fun _ _ => rfl) hio
        refine low_lcV hg ho hio (F0 := gup F1 d (.fdic ob raw ts)) (fun acc accT F2 own2 G2 σ2 q2 x2 g2 ra p hp => ?_) _ _ [] [] _ own1 _ σ1 hl' .refl (rd1.keysL.mono (.relock hd1 dicAt_f)) .nil (fun G'' s => s _ _ gup_same) q
        have h1 : F2 d = some (.fdic ob raw ts) := x2.sub _ _ gup_same
        have hpd : p ≠ d := fun z => by rw [z, g2.sub _ _ h1] at hp; cases hp
        obtain ⟨g3, m3⟩ := g2.fresh (Fresh.new (o := .lst accT) hp)
        refine ⟨by rw [gup_ne (fun z => hpd z.symm)]; exact g2.sub _ _ h1, ?_⟩
        have h2 : dicAt F2 d = some ts := by unfold dicAt; rw [h1]
        exact k _ _ _ _ _ _ q2 (x1.trans ⟨sub_back hF x2.sub⟩) (g3.relock h2 dicAt_d) (RvR.relock (r := .v (.ow (.lst acc))) h2 dicAt_d ⟨_, ⟨p, _, rfl, rfl, ra⟩, m3⟩)
    · refine .inr ?_
      refine hla _ _ (fun a C fs h => h) ?_
      simp only [itT, g1.sub _ _ hF]
      have hl' := g1.outer us rfl (fun _ _ => rfl) hio
      refine low_lcV hg ho hio (F0 := F1) (fun acc accT F2 own2 G2 σ2 q2 x2 g2 ra p hp => ?_) _ _ [] [] _ own1 _ σ1 hl' .refl rd1.keysL .nil (fun G'' s => s _ _ hF) q
      obtain ⟨g3, m3⟩ := g2.fresh (Fresh.new (o := .lst accT) hp)
      exact k _ _ _ _ _ _ q2 (x1.trans x2) g3 ⟨_, ⟨p, _, rfl, rfl, ra⟩, m3⟩
  · exact q.elim
theorem ev_lcD {la : LE} {vd : SV → Option (List (Key × PV) × SV)} (own : List (Str × Nat)) (hd : LocD X.N.length io la vd) (hN : X.N.Nodup) (hi : E en X iter la) (hg : AtBlk X scope fun Y => Egv Y io tg f fv (slotsOf own)) (ht : AtBlk X scope fun Y => Evts en Y io ifs tt) (he : AtBlk X scope fun Y => Ev en Y io elt te) (ho : OnlyT f (slotsOf own))
    (hio : ∀ j ∈ slotsOf own, j ∉ io := by decide) (hc : X.calm = true := by rfl) (ok : blkC X.N X.env.scope scope own = true := by rfl) (hs : ∀ x, foldedSetIterable iter X.env x = pure x := by intro _; rfl) :
    Ev en X io (.ListComp elt [⟨tg, iter, ifs, 0⟩] scope pos) (vLcD vd fv (slotsOf own) tt te) := by
  have h := e_lc (w := lIt la) (tt := lowVT X.N.length io tt) (te := lowV X.N.length io te) (pos := pos) own hN (i_val (tg := tg) hi) (fun s H C cl fp => (hg s H C cl fp).eg) ht he hc ok hs
  exact weakLs (e_or2 (e_lock h) h) fun s => low_vLcD hd (hg s (fun _ => none) 0 [] []).gv ho hio
end
end Vl
namespace Vl
open PySem PySem.Spec PyProof.Rows L2 Dv
/-! ### draws, over values -/
def drw (n : Nat) : Gp → T → Prop := fun H t => ∃ d, t = .ref d ∧ H = one d (.drw n)
def scr (a : Addr) : Gp → T → Prop := fun _ t => t = .ref a
def nilS : SV := fun _ => none
/-- the changed draws alone -/
def drS (n : Nat) : SV := conS (.ab (drw n)) nilS
def vTake : SpV := fun σ Ψ _ => ∃ n k, σ 0 = some (.ab (drw n)) ∧ σ 1 = some (.fr (.int k)) ∧ (0 < k ∧ k < 2 ^ 30) ∧ n < mostDraws ∧ ∀ r, 0 ≤ r → r < k → Ψ (.fr (.int r)) (drS (n + 1))
def vPick : SpV := fun σ Ψ _ => ∃ n ps, σ 0 = some (.ab (drw n)) ∧ σ 1 = some (.fr (.lst ps)) ∧ 0 < ps.length ∧ ps.length < 2 ^ 30 ∧ n < mostDraws ∧ ∀ p ∈ ps, Ψ (.fr p) (drS (n + 1))
theorem drS_le {σ : SV} {n : Nat} : ∀ i c, drS n i = some c → vset σ 0 (some (.ab (drw n))) i = some c := fun i c e => by
  cases i with
  | zero => exact e
  | succ i => cases e
theorem args1 {ts : List T} (h : ts.length = 1) : ∃ t, ts = [t] := by
  match ts, h with
  | [t], _ => exact ⟨t, rfl⟩
theorem args2 {ts : List T} (h : ts.length = 2) : ∃ t u, ts = [t, u] := by
  match ts, h with
  | [t, u], _ => exact ⟨t, u, rfl⟩
theorem args3 {ts : List T} (h : ts.length = 3) : ∃ t u v, ts = [t, u, v] := by
  match ts, h with
  | [t, u, v], _ => exact ⟨t, u, v, rfl⟩
theorem args4 {ts : List T} (h : ts.length = 4) : ∃ t u v w, ts = [t, u, v, w] := by
  match ts, h with
  | [t, u, v, w], _ => exact ⟨t, u, v, w, rfl⟩
theorem take_lift : ∀ ts G Φ ΦE, lowSpV 2 [0] vTake ts G Φ ΦE → spTake ts G Φ ΦE := by
  intro ts G Φ ΦE ⟨hl, Fr, F, own, σ, Ψ, ΨE, g, ⟨n, k, h0, h1, hk, hn, q⟩, cal⟩
  obtain ⟨t, u, rfl⟩ := args2 hl
  obtain ⟨t', e1, d, rfl, ho⟩ := g.cell 0 _ h0
  simp at e1
  subst e1
  obtain ⟨u', e2, r⟩ := g.cell 1 _ h1
  simp at e2
  subst e2
  have r : Rp F u (.int k) := r
  cases r
  refine ⟨d, k, n, rfl, g.owG 0 _ _ (by rw [ho]; exact one_same), hk, hn, fun r h2 h3 => ?_⟩
  obtain ⟨own', g', x'⟩ := g.mut (o' := .drw (n + 1)) (c := .ab (drw (n + 1))) ho ⟨.ref d, rfl, d, rfl, rfl⟩
  exact cal.ok _ _ _ _ _ _ _ (q r h2 h3) x' (g'.less drS_le) (show CellR F nil0 (.int r) (.fr (.int r)) from .int r) .nil
theorem pick_lift : ∀ ts G Φ ΦE, lowSpV 2 [0] vPick ts G Φ ΦE → spPick ts G Φ ΦE := by
  intro ts G Φ ΦE ⟨hl, Fr, F, own, σ, Ψ, ΨE, g, ⟨n, ps, h0, h1, hl1, hl2, hn, q⟩, cal⟩
  obtain ⟨t, u, rfl⟩ := args2 hl
  obtain ⟨t', e1, d, rfl, ho⟩ := g.cell 0 _ h0
  simp at e1
  subst e1
  obtain ⟨u', e2, r⟩ := g.cell 1 _ h1
  simp at e2
  subst e2
  have r : Rp F u (.lst ps) := r
  cases r with
  | @lst a xs _ ha rl =>
    refine ⟨d, a, n, xs, rfl, g.owG 0 _ _ (by rw [ho]; exact one_same), g.sub _ _ ha, by rw [rl.length]; exact hl1, by rw [rl.length]; exact hl2, hn, fun x hx => ?_⟩
    obtain ⟨i, hi, e⟩ := List.getElem_of_mem hx
    obtain ⟨p, e1, rp⟩ := rl.getT (i := i) (t := x) (by rw [List.getElem?_eq_getElem hi, e])
    obtain ⟨own', g', x'⟩ := g.mut (o' := .drw (n + 1)) (c := .ab (drw (n + 1))) ho ⟨.ref d, rfl, d, rfl, rfl⟩
    exact cal.ok _ _ _ _ _ _ _ (q p (List.mem_of_getElem? e1)) x' (g'.less drS_le) (show CellR F nil0 x (.fr p) from rp) .nil
/-! ### the law -/
def law0 (a : Addr) : SV := fun i => match i with
  | 0 => some (.ab (scr a))
  | 1 => some (.ab (drw 0))
  | _ => none
def endsL : VEnds := ⟨fun _ => False, fun r σ => rd σ r = some (.bl true), fun _ => False, fun _ => False⟩
def spLawT : Sp2 := fun ts G Φ _ => ∃ a, ts = [.ref a] ∧ (∀ d n, G d ≠ some (.drw n)) ∧ Φ (.bl true) G
section
variable {P : Program} {w : World} {K : Fr0} {mg : Str → Option Value} {base : Heap} {x : Str} {k : Nat} {st : Stmt} {N ps : List Str} {f : Addr} {fd : FuncData}
/-- the first statement makes the draws; the rest is read over values -/
abbrev BodyLaw (P : Program) (w : World) (K : Fr0) (mg : Str → Option Value) (base : Heap) (N : List Str) (x : Str) (st : Stmt) (f : Addr) (k : Nat) : Prop :=
  ∀ (cdv : Value) (A : Around) (outer : List PySem.Env) (s : Shared) (H : Hp) (E : XK) (en : En) (a : Addr) (ns : List Int), Room k (A.deeper (envOfC x (defScope st) s.heap.objs.size f cdv)) → ns.length ≤ 63 → (∀ H' G', HRel K en H' G' → SqG K H' G' a ns) →
    ∃ st0 rest vs, defBody st = st0 :: rest ∧ Es en (bx P w K mg base N x (defScope st) f cdv A outer s H E) st0 (lAsg (fun S G Φ => lVar 0 S G fun t G1 => t = .ref a ∧ spBegin [.ref a] G1 Φ noX) (gN 1)) ∧
      Evss en (bx P w K mg base N x (defScope st) f cdv A outer s H E) [] rest vs ∧ vs endsL (law0 a)
theorem lawV_of (F : Fun K x x st f fd) (S : FnScope N ps (defScope st)) (len : ps.length = 1) (hN : 2 ≤ N.length) (hbody : BodyLaw P w K mg base N x st f k) : FnOk P w K mg base (L2.CX P w) (k + 1) f fd ps (lowScr K spLawT) := by
  refine fnB_of F S len fun cdv A outer s H E G Φ ΦE a ns hr ho hn hS hsp => ?_
  obtain ⟨st0, rest, vs, eb, h0, hr2, hv⟩ := hbody cdv A outer s H E [(H, G)] a ns hr hn hS
  obtain ⟨a', e', hnd, q⟩ := hsp
  rw [eb]
  refine ⟨_, es_cons h0 hr2, ?_⟩
  have hat : (slots0 N [T.ref a])[0]? = some (some (.ref a)) := rfl
  simp only [lSeq, lAsg, lVar, sl_of hat]
  refine ⟨trivial, a, rfl, hnd, fun d hd => ?_⟩
  show ∃ G0, Sub G0 (gup G d (.drw 0)) ∧ lowVS N.length [] vs (bodyL Φ) ((slots0 N [T.ref a]).set 1 (some (.ref d))) G0
  refine ⟨_, Sub.refl _, ⟨(slots0 N [T.ref a]).set 1 (some (.ref d)), nil0⟩, G, fun i => if i = 1 then one d (.drw 0) else nil0, law0 a, endsL, ⟨?_, fun i hi => rfl, Sub.gup hd, fun a o e => (by cases e), fun _ _ => rfl, fun i a o e => ?_, fun i b e => ⟨?_, rfl⟩, fun i j b hij e => ?_, fun i c e => ?_⟩, hv, ?_⟩
  · rw [List.length_set]
    unfold slots0
    rw [List.length_append, List.length_map, List.length_replicate]
    show 1 + (N.length - 1) = N.length
    omega
  · split at e
    · obtain ⟨rfl, rfl⟩ := one_at e; exact gup_same
    · cases e
  · split at e
    · rw [one_ne e]; exact hd
    · exact absurd rfl e
  · split at e
    · rename_i z
      rw [if_neg (fun y => hij (by rw [z, y]))]
      rfl
    · exact absurd rfl e
  · match i, e with
    | 0, e => cases e; exact ⟨.ref a, rfl, rfl⟩
    | 1, e =>
      cases e
      refine ⟨.ref d, List.getElem?_set_self ?_, ?_⟩
      · unfold slots0
        rw [List.length_append, List.length_map, List.length_replicate]
        show 1 < 1 + (N.length - 1)
        omega
      · rw [if_pos rfl]; exact ⟨d, rfl, rfl⟩
  · refine ⟨fun _ _ _ _ _ q => q.elim, fun r σ' F' own' S' G' t hr x g r' => ?_, fun _ _ _ _ _ q => q.elim, fun _ _ _ _ _ q => q.elim⟩
    obtain rfl : t = .bl true := g.rdV r' hr
    exact rtF.sub (x.sub.trans g.sub) q
end
end Vl
namespace Vl
open PySem PySem.Spec PyProof.Rows L2 Dv
/-! ### steps over values -/
theorem vset_vset {σ : SV} {j : Nat} {c d : Option Cell} : vset (vset σ j c) j d = vset σ j d := by funext i; simp only [vset]; split <;> rfl
/-- a statement, and what stands behind it -/
theorem vsq {a b : VS} {L : VEnds} {σ : SV} {M : SV → Prop} (k : ∀ σ', M σ' → b L σ') (h : ∀ R : SV → Prop, (∀ σ', M σ' → R σ') → a ⟨R, L.rt, L.bk, L.ct⟩ σ) : vSeq a b L σ := h _ k
theorem vsq1 {a b : VS} {L : VEnds} {σ σ1 : SV} (h : ∀ R : SV → Prop, R σ1 → a ⟨R, L.rt, L.bk, L.ct⟩ σ) (k : b L σ1) : vSeq a b L σ := h _ k
theorem vseq_eq {a b : VS} {L : VEnds} {σ : SV} : vSeq a b L σ = a ⟨b L, L.rt, L.bk, L.ct⟩ σ := rfl
theorem forV_ind {fv : PV → SV → Option SV} {b : VS} {L : VEnds} (I : List PV → SV → Prop) (h0 : ∀ σ, I [] σ → L.nx σ)
    (h1 : ∀ p r σ, I (p :: r) σ → ∃ σ', fv p σ = some σ' ∧ ∀ R : SV → Prop, (∀ σ1, I r σ1 → R σ1) → b ⟨R, L.rt, L.nx, R⟩ σ') : ∀ items σ, I items σ → forV L fv b items σ
  | [], σ, i => h0 σ i
  | p :: r, σ, i => by
    obtain ⟨σ', e, h⟩ := h1 p r σ i
    simp only [forV, e]
    exact h _ fun σ1 i1 => forV_ind I h0 h1 r σ1 i1
theorem lcV_ind {fv : PV → SV → Option SV} {us : List Nat} {tt : VT} {te : VE} {Fin : List PV → SV → Prop} (I : List PV → List PV → SV → Prop) (h0 : ∀ acc σ, I [] acc σ → Fin acc σ)
    (h1 : ∀ p r acc σ, I (p :: r) acc σ → ∃ σ', fv p (vdel σ us) = some σ' ∧ ∀ R : List PV → SV → Prop, (∀ acc σ1, I r acc (vdel σ1 us) → R acc σ1) → tt σ' fun b σ1 => if b = true then te σ1 fun y σ2 => (match tk σ2 y with
        | some (q, σ3) => acc.length < sizeLine ∧ R (acc ++ [q]) σ3
        | none => False) else R acc σ1) : ∀ items acc σ, I items acc σ → lcV fv us tt te Fin items acc σ
  | [], acc, σ, i => h0 acc σ i
  | p :: r, acc, σ, i => by
    obtain ⟨σ', e, h⟩ := h1 p r acc σ i
    simp only [lcV, e]
    exact h (fun acc σ1 => lcV fv us tt te Fin r acc (vdel σ1 us)) fun acc σ1 i1 => lcV_ind I h0 h1 r acc (vdel σ1 us) i1
theorem vdel_agree {σ τ : SV} {us : List Nat} (h : ∀ i, i ∉ us → τ i = σ i) : vdel τ us = vdel σ us := by
  funext i
  by_cases z : i ∈ us
  · rw [vdel_in z, vdel_in z]
  · rw [vdel_ne z, vdel_ne z, h i z]
/-- a comprehension that changes nothing but its own names -/
theorem lcV_pure {fv : PV → SV → Option SV} {us : List Nat} {tt : VT} {te : VE} {Fin : List PV → SV → Prop} {σ : SV} (p : PV → Bool) (g : PV → PV) {items : List PV} (hl : items.length ≤ sizeLine)
    (h : ∀ x ∈ items, ∃ σ', fv x (vdel σ us) = some σ' ∧ ∀ (A : SV → Prop) (B : PV → SV → Prop), (p x = false → ∀ σ1, (∀ i, i ∉ us → σ1 i = σ i) → A σ1) → (p x = true → ∀ σ1, (∀ i, i ∉ us → σ1 i = σ i) → B (g x) σ1) →
      tt σ' fun b σ1 => if b = true then te σ1 fun y σ2 => (match tk σ2 y with
        | some (q, σ3) => B q σ3
        | none => False) else A σ1)
    (k : Fin ((items.filter p).map g) (vdel σ us)) : lcV fv us tt te Fin items [] (vdel σ us) := by
  refine lcV_ind (I := fun r acc τ => τ = vdel σ us ∧ ∃ q, items = q ++ r ∧ acc = (q.filter p).map g) (fun acc τ ⟨e, q, h1, h2⟩ => ?_) (fun x r acc τ ⟨e, q, h1, h2⟩ => ?_) items [] _ ⟨rfl, [], rfl, rfl⟩
  · subst e
    rw [vdel_agree (τ := vdel σ us) (σ := σ) fun i hi => vdel_ne hi]
    obtain ⟨σ', e1, h3⟩ := h x (by rw [h1]; simp)
    refine ⟨σ', e1, fun R hR => ?_⟩
    have hlen : acc.length < sizeLine := by
      rw [h2, List.length_map]
      have := List.length_filter_le p q
      rw [h1, List.length_append, List.length_cons] at hl
      omega
    exact h3 (fun σ1 => R acc σ1) (fun q σ3 => acc.length < sizeLine ∧ R (acc ++ [q]) σ3) (fun hp σ1 hs => hR _ _ ⟨vdel_agree hs, q ++ [x], by rw [h1]; simp, by rw [h2]; simp [hp]⟩)
      (fun hp σ1 hs => ⟨hlen, hR _ _ ⟨vdel_agree hs, q ++ [x], by rw [h1]; simp, by rw [h2]; simp [hp]⟩⟩)
  · subst e h2
    rw [List.append_nil] at h1
    subst h1
    exact k
theorem out1 {σ : SV} {j : Nat} {c : Option Cell} : ∀ i, i ∉ [j] → vset (vset σ j none) j c i = σ i := fun i hi => by
  have : i ≠ j := fun z => hi (by rw [z]; exact List.mem_cons_self)
  simp [vset, this]
/-! ### data -/
theorem okL_strs {ss : List Str} (h : ∀ s ∈ ss, PyData.strOk s = true) : okL (ss.map PV.str) = true := okL_iff.mpr fun t ht => by
  obtain ⟨s, hs, rfl⟩ := List.mem_map.mp ht
  exact h s hs
theorem dpL_strs {ss : List Str} : dpL (ss.map PV.str) = 0 := Nat.le_zero.mp (dpL_le fun t ht => by
  obtain ⟨s, hs, rfl⟩ := List.mem_map.mp ht
  exact Nat.le_refl _)
theorem cpL_strs : ∀ {ss tt : List Str}, cpL (ss.map PV.str) (tt.map PV.str) = true
  | [], _ => by simp [cpL]
  | _ :: _, [] => by simp [cpL]
  | s :: ss, t :: tt => by simp [cpL, cpP, cpL_strs (ss := ss) (tt := tt)]
theorem cmp_strs {ss tt : List Str} (h : ∀ s ∈ ss, PyData.strOk s = true) (h' : ∀ s ∈ tt, PyData.strOk s = true) : Cmp (.lst (ss.map PV.str)) (.lst (tt.map PV.str)) :=
  .inr ⟨by rw [okP]; exact okL_strs h, by rw [okP]; exact okL_strs h', by rw [cpP]; exact cpL_strs, by rw [dpP, dpL_strs]; decide, by rw [dpP, dpL_strs]; decide⟩
theorem map_str_inj {ss tt : List Str} (h : ss.map PV.str = tt.map PV.str) : ss = tt := by
  induction ss generalizing tt with
  | nil => cases tt with
    | nil => rfl
    | cons _ _ => cases h
  | cons s ss ih => cases tt with
    | nil => cases h
    | cons t tt =>
      simp only [List.map_cons, List.cons.injEq, PV.str.injEq] at h
      rw [h.1, ih h.2]
/-- plain: comparable with all of its kind (no truth value inside) -/
def nbP : PV → Bool := fun p => cpP p p
end Vl
namespace Dv
open PySem PySem.Spec PyProof.Rows L2
/-! ### defs that are called where no repr is under way -/
structure FnG (P : Program) (w : World) (K : Fr0) (mg : Str → Option Value) (base : Heap) (CX : CXT) (k : Nat) (f : Addr) (fd : FuncData) (ps : List Str) (sp : Sp) : Prop where
  len : ∀ vs H Q E, sp vs H Q E → vs.length = ps.length
  run : ∀ (A : Around) (outer : List PySem.Env) (sh : Shared) (H : Hp) (args : Args) (us : List Value) (vs : List V) (Q : VK) (E : XK), Room k A → A.guards = some [] → Env0 P w K mg base A outer sh H → BindsTo sh fd args (ps.zip us) →
    Vals vs us → sp vs H Q E → codeAny (model P w) A (.call (.ref f) args) (CR CX outer P w H sh Q E) sh
section
variable {P : Program} {w : World} {K : Fr0} {mg : Str → Option Value} {base : Heap} {CX : CXT} {j k : Nat} {f : Addr} {fd : FuncData} {ps N : List Str} {sp sp' : Sp}
theorem FnG.mono (F : FnG P w K mg base CX j f fd ps sp) (h : j ≤ k) : FnG P w K mg base CX k f fd ps sp := ⟨F.len, fun A outer sh H args us vs Q E hr => F.run A outer sh H args us vs Q E (hr.mono h)⟩
theorem FnG.imp (F : FnG P w K mg base CX k f fd ps sp) (h : ∀ vs H Q E, sp' vs H Q E → sp vs H Q E) : FnG P w K mg base CX k f fd ps sp' :=
  ⟨fun vs H Q E q => F.len vs H Q E (h _ _ _ _ q), fun A outer sh H args us vs Q E a b c d e q => F.run A outer sh H args us vs Q E a b c d e (h _ _ _ _ q)⟩
theorem FnG.of (F : FnOk P w K mg base CX k f fd ps sp) : FnG P w K mg base CX k f fd ps sp := ⟨F.len, fun A outer sh H args us vs Q E a _ c d e q => F.run A outer sh H args us vs Q E a c d e q⟩
theorem fnG_of {name qual : Str} {params : Arguments} {body : List Stmt} {scope : Scope} {dV kV doc pm cdv ct oc : Value} {an od : Option Addr} {osl : Array (Option Value)}
    (lk : K.lookup f = some ⟨oc, od, .func (PySem.W.fnOf name qual params body scope dV kV doc pm an cdv ct), osl⟩) (hcd : PySem.W.codeIn K cdv qual = true) (sc : FnScope N ps scope) (len : ∀ vs H Q E, sp vs H Q E → vs.length = ps.length)
    (hb : ∀ (A : Around) (outer : List PySem.Env) (sh : Shared) (H : Hp) (vs : List V) (Q : VK) (E : XK), Room k (A.deeper (envOfC qual scope sh.heap.objs.size f cdv)) → A.guards = some [] → sp vs H Q E →
      ∃ t, PSs (cxOf CX P w K mg base N qual scope f cdv A outer sh H E) body t ∧ t { nx := fun _ H' => Q .non H', rt := Q } (L2.start N vs) H) :
    FnG P w K mg base CX (k + 1) f (PySem.W.fnOf name qual params body scope dV kV doc pm an cdv ct) ps sp := by
  refine ⟨len, fun A outer sh H args us vs Q E hr hg ev hbind rv hsp => ?_⟩
  have hlen := len _ _ _ _ hsp
  have kin : K.In sh.heap := ev.mod.kin.keeps fun b o z => (ev.bs b o z).1
  have nolim : sh.heap.NoLimit := ev.mod.nolimit.keeps fun b o z => (ev.bs b o z).1
  have kinds : ∀ y ∈ ps.zip us, scope.names.lookup y.1 = some .local ∨ (scope.names.lookup y.1 = some .cell ∧ ((cellsFrom (sh.heap.objs.size + 1) scope.names []).lookup y.1).isSome = true) := by
    rintro ⟨nm, v⟩ hy
    rcases sc.par nm (List.of_mem_zip hy).1 with z | z
    · exact .inl z
    · exact .inr ⟨z, PySem.W.cellsFrom_some _ _ _ (.inl z)⟩
  refine codeAny_call_function hr.depth (kin _ _ lk) rfl sc.co sc.gen rfl
    (PySem.W.codeRec_of kin hcd) (hbind _ _ _ _ (wpAny_newFunctionEnv_cells sc.kind kinds fun env he sh1 x => ?_))
  cases he
  refine ⟨nolim.keeps x.toInCall.keep, codeAny_func ?_⟩
  obtain ⟨t, ht, hq⟩ := hb A outer sh H vs Q E (hr.deeper _) hg hsp
  have J : Inv (cxOf CX P w K mg base N qual scope f cdv A outer sh H E) [] (L2.start N vs) H sh1 := inv_start sc hr.hd ev hlen rv x
  refine wpAny_mono (ht.run [] sh1 (L2.start N vs) H _ J hq) (fun fl sh' q => ?_) fun e sh' q => q
  cases fl with
  | ret u =>
    obtain ⟨v, σ', H', J', r', q⟩ := q
    exact ⟨v, H', J'.os, J'.bare, J'.base, J'.hok, r', q⟩
  | next =>
    obtain ⟨σ', H', J', q⟩ := q
    exact ⟨V.non, H', J'.os, J'.bare, J'.base, J'.hok, rfl, q⟩
  | brk => exact q.choose_spec.choose_spec.2.elim
  | cont => exact q.choose_spec.choose_spec.2.elim
end
section
variable {X : Cx} {CX : CXT} {k : Nat} {f : Addr} {fd : FuncData} {ps : List Str} {sp : Sp} {E : XK} {dvs : List V} {ds : List Value} {x : Str} {p pos : Pos} {e : Expr} {es : List Expr} {t : TA}
theorem run_fnG {pins : List (Addr × Obj)} {σ : L2.St} {H : Hp} {sh : Shared} {Q : VK} {us : List Value} {vs : List V} (F : FnG X.prog X.w X.K X.mg X.base CX k f fd ps sp) (hr : Room k X.A) (hg : X.A.guards = some []) (hb : Binds X.K fd ps ds) (hd : Vals dvs ds)
    (hx : Passes CX X E) (J : Inv X pins σ H sh) (r : Vals vs us) (h : sp (vs ++ dvs) H Q E) : wpAny (model X.prog X.w) X.A (call (.ref f) us) (EP X pins σ Q) X.xe sh := by
  have rv := r.append hd
  refine wpAny_call (codeAny_mono (F.run X.A X.stack sh H ⟨us, []⟩ (us ++ ds) (vs ++ dvs) Q E hr hg J.env0
    (hb sh us J.kIn (rv.length.symm.trans (F.len _ _ _ _ h))) rv h) fun res sh' q => ?_)
  match res, q with
  | .error e, q => exact hx pins σ H sh e sh' J q
  | .ok (.ret u), q => exact J.after q
  | .ok .next, q => exact q.elim
  | .ok .brk, q => exact q.elim
  | .ok .cont, q => exact q.elim
theorem pe_callG (F : FnG X.prog X.w X.K X.mg X.base CX k f fd ps sp) (hr : Room k X.A) (hgd : X.A.guards = some []) (hg : Gl X x) (hm : X.mg x = some (.ref f)) (hk : PySem.W.keepIn X.K (.ref f) = true) (hb : Binds X.K fd ps ds) (hd : Vals dvs ds) (hx : Passes CX X E)
    (ha : PA X (e :: es) t) (hdb : (x == ("__debug__" : Str)) = false := by decide) (he : starEach (e :: es) X.env = (false, eval e X.env) :: starEach es X.env := by rfl)
    (hpl : (backTo pos (starEach es X.env)).any (·.1) = false := by rfl) : PE X (.Call (.Name x p) (e :: es) [] pos) (tCall sp dvs E t) := by
  refine ⟨fun pins σ0 σ H Q J h => wpAny_Call_Name_kw (ld_glob J hg hm ?_ hdb)⟩
  exact PySem.W.callWith_K (h₀ := X.base) J.ok.mod.kin hk
    (thn (ha.run pos pins σ0 σ H _ J h) fun us s1 ⟨vs, H1, J1, r, q⟩ => ⟨J1.kIn, run_fnG F hr hgd hb hd hx J1 r q⟩) he hpl
end
/-! ### the law, called at the top -/
theorem law_callG {P : Program} {w : World} {K : Fr0} {mg mb : Str → Option Value} {CX : CXT} {k : Nat} {fa a : Addr} {fd : FuncData} {x : Str} {sp : Sp} {sh : Shared} {vs : List Value} {ns : List Int}
    (kin : K.In sh.heap) (hns : sh.heap.Ns mainGlobals mg) (hbn : sh.heap.Ns builtinsNs mb) (hbb : ∀ y : Str, y ≠ "__name__" → mb y = bootBuiltins y) (nolim : sh.heap.NoLimit) (hgen : sh.gens = #[])
    (hsc : sh.heap.get? a = some { cls := .type "list", data := .seq vs.toArray }) (hints : IntsAre vs ns) (hsize : ns.length ≤ sizeLine) (room : Room k callerA)
    (F : ∀ base : Heap, K.In base → base.Ns mainGlobals mg → FnG P w K mg base CX k fa fd [x] sp) (hbind : ∀ (s : Shared) (u : Value), BindsTo s fd ⟨[u], []⟩ [(x, u)])
    (hsp : ∀ H : Hp, Only H → SqL K H a (ns.map V.int) → sp [.ref a] H (fun v _ => v = .bl true) fun _ _ _ => False) (hCX : ∀ H e s', CX [] H sh (fun _ _ _ => False) e s' → False) :
    codeAny (model P w) callerA (.call (.ref fa) ⟨[.ref a], []⟩) (fun r s' => r = .ok (.ret (.bool true)) ∧ OldK sh.heap s'.heap ∧ s'.os = sh.os ∧ AllBare s'.gens) sh := by
  -- the heap H tells of the script alone
  have key : ∀ H : Hp, Only H → SqL K H a (ns.map V.int) → HOk P w H sh.heap → (∀ b, H b ≠ none → b = a) → (H a ≠ none → K.lookup a = none) →
      codeAny (model P w) callerA (.call (.ref fa) ⟨[.ref a], []⟩) (fun r s' => r = .ok (.ret (.bool true)) ∧ OldK sh.heap s'.heap ∧ s'.os = sh.os ∧ AllBare s'.gens) sh := by
    intro H only sq hok onlyA notK
    have hid : ∀ {b : Addr} {o : Obj}, sh.heap.get? b = some o → H b = none → (hidT sh.heap H).get? b = some o := fun z n => hidT_get z n
    have out : ∀ {b : Addr} {m : Str → Option Value}, sh.heap.Ns b m → (hidT sh.heap H).Ns b m := by
      rintro b m ⟨o, es, ep, e, d, r⟩
      refine ⟨o, es, ep, hid e ?_, d, r⟩
      cases q : H b with
      | none => rfl
      | some u =>
        have z : b = a := onlyA b (by rw [q]; simp)
        rw [z, hsc] at e
        cases e
        have d' : Data.seq vs.toArray _ = Data.dict es ep := d
        cases d'
    have kin2 : K.In (hidT sh.heap H) := by
      intro b o e
      refine hid (kin b o e) ?_
      cases q : H b with
      | none => rfl
      | some u =>
        have z : b = a := onlyA b (by rw [q]; simp)
        rw [z, notK (by rw [← z, q]; simp)] at e
        cases e
    have md : Mod K mg (hidT sh.heap H) := ⟨kin2, out hns, ⟨mb, out hbn, hbb⟩, nolim.elim fun mc h => ⟨mc, out h.1, h.2⟩⟩
    have ev : Env0 P w K mg (hidT sh.heap H) callerA [] sh H := ⟨rfl, md, fun b o z => of_hidT z, Nat.le_of_eq (hidT_size _ _), trivial, (by intro b hb; cases hb), hok, .of_eq hgen⟩
    refine codeAny_mono ((F _ kin2 (out hns)).run callerA [] sh H ⟨[.ref a], []⟩ [.ref a] [.ref a] _ _ room rfl ev (hbind sh (.ref a)) (.cons rfl .nil) (hsp H only sq)) fun res s' q => ?_
    match res, q with
    | .error e, q => exact (hCX H e s' q).elim
    | .ok .next, q => exact q.elim
    | .ok .brk, q => exact q.elim
    | .ok .cont, q => exact q.elim
    | .ok (.ret u), q =>
      obtain ⟨v, H', os, bare, un, hok', rr, qv⟩ := q
      obtain rfl : v = .bl true := qv
      obtain rfl : u = Value.bool true := rr
      refine ⟨rfl, OldK.of_keep fun b o e => ?_, os, bare⟩
      cases z : H b with
      | none => exact un.keep b o e z (by intro y; cases y) (by simp)
      | some u =>
        rcases only b with y | ⟨ob, xs, y⟩
        · rw [z] at y; cases y
        · have e1 := (hok b _ y).1
          rw [e] at e1
          cases e1
          exact (hok' b _ (un.frzs b _ _ y)).1
  cases hk : K.lookup a with
  | some o =>
    have e := kin a o hk
    rw [hsc] at e
    cases e
    exact key (fun _ => none) (fun _ => .inl rfl) (.inr ⟨_, vs.toArray, _, hk, rfl, rfl, rfl, by rw [List.size_toArray, hints.length]; exact hsize, by simpa using vals_ints hints⟩)
      (by intro b u z; cases z) (fun b z => absurd rfl z) fun z => absurd rfl z
  | none =>
    have at_ : ∀ b, (fun b => if b = a then some (HO.frz { cls := .type "list", data := .seq vs.toArray } (.lst (ns.map V.int))) else none) b ≠ none → b = a := fun b z => by
      by_cases y : b = a
      · exact y
      · exact absurd (if_neg y) z
    refine key (fun b => if b = a then some (.frz { cls := .type "list", data := .seq vs.toArray } (.lst (ns.map V.int))) else none) (fun b => ?_) (.inl (.inr ⟨{ cls := .type "list", data := .seq vs.toArray }, if_pos rfl⟩)) (fun b u z => ?_) at_ fun _ => hk
    · by_cases y : b = a
      · exact .inr ⟨_, _, if_pos y⟩
      · exact .inl (if_neg y)
    · have y := at_ b (by rw [z]; simp)
      have z' := (if_pos y).symm.trans z
      cases z'
      rw [y]
      exact ⟨hsc, by rw [List.length_map]; exact hsize, vs, _, vals_ints hints, hsc⟩
theorem walkG_of {l : PySem.W.OpenLaw} {n k : Nat} {q : Program} {loose : List Str} {XP : (Str → Option Value) → Heap → Prop} {YP : World → Heap → Prop} {d : DefRec} {K : Params → PySem.W.Frag} {CX : World → CXT} {sp : World → Sp} {x : Str}
    (hmost : l.most = some n) (hfit : n ≤ sizeLine) (hdf : d.params.defaults = []) (room : Room k callerA) (hY : ∀ (w : World) (h : Heap), YP w h → (K w.params).In h)
    (F : ∀ (w : World) (mg : Str → Option Value) (fa : Addr) (h : Heap), (K w.params).In h → h.Ns mainGlobals mg → mg d.name = some (.ref fa) → ∃ fd : FuncData, (∀ (s : Shared) (u : Value), BindsTo s fd ⟨[u], []⟩ [(x, u)]) ∧
      ∀ base : Heap, (K w.params).In base → base.Ns mainGlobals mg → FnG l.prog w (K w.params) mg base (CX w) k fa fd [x] (sp w))
    (hsp : ∀ (w : World) (H : Hp) (a : Addr) (ns : List Int), ns.length ≤ n → Only H → SqL (K w.params) H a (ns.map V.int) → sp w [.ref a] H (fun v _ => v = .bl true) fun _ _ _ => False)
    (hCX : ∀ (w : World) (H : Hp) (s : Shared) (e : Value) (s' : Shared), CX w [] H s (fun _ _ _ => False) e s' → False) : PySem.W.WalkO q loose XP YP l.row.toRowW d [] (fun f vs => PySem.call f vs) := by
  refine Att.attach_call hmost hdf fun w s0 s1 mg mb fa o pm cd doc a vs ns G Y ho hd hcd hmg hobj hints hlen hgen => ?_
  obtain ⟨fd, hb, hF⟩ := F w mg fa _ (hY w _ Y) G.T.g hmg
  exact law_callG (hY w _ Y) G.T.g G.T.b G.T.builtins G.T.nolimit hgen hobj hints (Nat.le_trans hlen hfit) room hF hb
    (fun H hO hS => hsp w H a ns hlen hO hS) fun H e s' => hCX w H s1 e s'
/-! ### repr of lists and tuples of data -/
def ShowD (d : PyData) : Prop := d.showable = true ∧ d.depth ≤ 64 ∧ d.shown.length ≤ sizeLine ∧ d.hasDict = false
theorem call_reprD {X : Cx} (hgd : X.A.guards = some []) (hu : X.A.units + 66 < cLine) : CallR X (.builtin "repr") (fun xs H Q => ∃ a d, xs = [V.ref a] ∧ Dp X.K H (.ref a) d ∧ ShowD d ∧ Q (.str d.shown) H) := by
  intro pins sh σ H xs us Q J r ⟨a, d, e, hd, ⟨h1, h2, h3, h4⟩, q⟩
  subst e
  obtain ⟨u, rfl, ru⟩ := vals1 r
  cases ru
  obtain ⟨as, rd⟩ := Dp.reads J d (.ref a) (.ref a) hd rfl
  refine repr_of_reads' rd h1 (fun z => by rw [h4] at z; cases z) hgd (by omega) (fun _ _ z => z) (fun h' u tk hk => ?_) h3
  exact ⟨.str d.shown, H, J.kept hk, ⟨u, rfl⟩, q⟩
end Dv
namespace Dv
open PySem PySem.Spec PyProof.Rows L2
section
variable {P : Program} {w : World} {K : Fr0} {mg : Str → Option Value} {base : Heap} {x qual : Str} {st : Stmt} {f : Addr} {fd : FuncData} {N ps : List Str} {j k : Nat} {sp sp' : Sp2} {dts : List T}
theorem okG (F : Fun K x qual st f fd) (S : FnScope N ps (defScope st)) {sp : Sp} (len : ∀ vs H Q E, sp vs H Q E → vs.length = ps.length)
    (hbody : ∀ (cdv : Value) (A : Around) (outer : List PySem.Env) (s : Shared) (H : Hp) (vs : List V) (Q : VK) (E : XK), Room k (A.deeper (envOfC qual (defScope st) s.heap.objs.size f cdv)) → A.guards = some [] → sp vs H Q E →
      ∃ t, PSs (bx P w K mg base N qual (defScope st) f cdv A outer s H E) (defBody st) t ∧ t { nx := fun _ H' => Q .non H', rt := Q } (L2.start N vs) H) : FnG P w K mg base (L2.CX P w) (k + 1) f fd ps sp := by
  obtain ⟨oc, od, kV, doc, pm, an, cdv, ct, osl, rfl, lk, hcd⟩ := F.ex
  exact fnG_of lk hcd S len fun A outer s H vs Q E hr hg hsp => hbody cdv A outer s H vs Q E hr hg hsp
abbrev BodyOkG (P : Program) (w : World) (K : Fr0) (mg : Str → Option Value) (base : Heap) (N : List Str) (qual : Str) (scope : Scope) (f : Addr) (k : Nat) (body : List Stmt) (sp : Sp2) : Prop :=
  ∀ (cdv : Value) (A : Around) (outer : List PySem.Env) (s : Shared) (H : Hp) (E : XK) (ts : List T) (G : Gp) (Φ : QT) (ΦE : XK2), Room k (A.deeper (envOfC qual scope s.heap.objs.size f cdv)) → A.guards = some [] → OutX K H G ΦE E → sp ts G Φ ΦE →
    ∃ l, Ess [(H, G)] (bx P w K mg base N qual scope f cdv A outer s H E) body l ∧ l (bodyL Φ) (slots0 N ts) G
theorem fn_TG (F : Fun K x qual st f fd) (S : FnScope N ps (defScope st)) (len : ∀ ts G Φ ΦE, sp ts G Φ ΦE → ts.length = ps.length) (hbody : BodyOkG P w K mg base N qual (defScope st) f k (defBody st) sp) :
    FnG P w K mg base (L2.CX P w) (k + 1) f fd ps (lowSp K sp) := okG F S (lowSp_len len) fun cdv A outer s H vs Q E hr hg h => by
  obtain ⟨ts, G, Φ, ΦE, r, g, q, k1, k2⟩ := h
  obtain ⟨l, b, q2⟩ := hbody cdv A outer s H E ts G Φ ΦE hr hg k2 q
  exact ⟨_, b, slots0 N ts, G, bodyL Φ, srel_start r, g.enter, q2, ends_body k1⟩
/-- a def that is called where no repr is under way, and its promise -/
structure KnG (P : Program) (w : World) (K : Fr0) (mg : Str → Option Value) (base : Heap) (k : Nat) (x : Str) (sp : Sp2) (dts : List T) : Prop where
  ex : ∃ (f : Addr) (fd : FuncData) (ps : List Str) (dvs : List V) (ds : List Value), FnG P w K mg base (L2.CX P w) k f fd ps (lowSp K sp) ∧ mg x = some (.ref f) ∧ PySem.W.keepIn K (.ref f) = true ∧ Binds K fd ps ds ∧ Vals dvs ds ∧ ∀ H, RelL K H dvs dts
theorem kng_of (D : Df K mg x st ps) (S : FnScope N ps (defScope st)) (len : ∀ ts G Φ ΦE, sp ts G Φ ΦE → ts.length = ps.length) (hbody : ∀ f, BodyOkG P w K mg base N x (defScope st) f k (defBody st) sp) : KnG P w K mg base (k + 1) x sp [] := by
  obtain ⟨f, fd, F, hm, hb⟩ := D.ex
  exact ⟨f, fd, ps, [], [], fn_TG F S len (hbody f), hm, F.kp, hb, .nil, fun H => .nil⟩
end
section
variable {X : Cx} {e : Expr} {es : List Expr} {l : LA} {pos p : Pos} {k : Nat} {x : Str} {sp : Sp2} {dts : List T}
theorem e_kng (F : KnG X.prog X.w X.K X.mg X.base k x sp dts) (hr : Room k X.A) (hgd : X.A.guards = some []) (ha : Ea en X (e :: es) l) (hg : Gl X x := by rfl) (hdb : (x == ("__debug__" : Str)) = false := by decide)
    (he : starEach (e :: es) X.env = (false, eval e X.env) :: starEach es X.env := by rfl) (hpl : (backTo pos (starEach es X.env)).any (·.1) = false := by rfl) : E en X (.Call (.Name x p) (e :: es) [] pos) (lCall sp dts noX l) := by
  obtain ⟨f, fd, ps, dvs, ds, a, hm, hk, hb, hd, hdt⟩ := F.ex
  exact PE.weak (pe_callG a hr hgd hg hm hk hb hd passN ha hdb he hpl) (low_call hdt)
/-! repr -/
def reprT : RLT := fun ts G Φ => match ts with
  | [t] => (match t with
    | .ref _ => True
    | .tup _ => True
    | _ => False) ∧ ∃ d, Dat G t d ∧ ShowD d ∧ Φ (.str d.shown) G
  | _ => False
theorem b_repr (hgd : X.A.guards = some []) (hu : X.A.units + 66 < cLine) : CallR X (.builtin "repr") (lowC X.K en reprT) := by
  refine CallR.weak (call_reprD hgd hu) fun xs H Q ⟨ts, G, Φ, r, g, q, kk⟩ => ?_
  unfold reprT at q
  split at q
  · rename_i t
    obtain ⟨q0, d, h1, h2, q⟩ := q
    cases r with
    | cons r1 r2 =>
      cases r2
      have hd := h1.dp g r1
      have hx : ∀ {v : V}, Rel X.K H v t → ∃ a, v = V.ref a := fun r1 => by
        cases r1 with
        | ref a => exact ⟨a, rfl⟩
        | @tup p _ _ _ _ => exact ⟨p, rfl⟩
        | _ => exact q0.elim
      obtain ⟨a, rfl⟩ := hx r1
      exact ⟨a, d, rfl, hd, h2, kk _ _ _ _ q (.str _) g (Step.refl H G)⟩
  · exact q.elim
theorem b_reprE (hm : X.mg "repr" = none) (hgd : X.A.guards = some []) (hu : X.A.units + 66 < cLine) (ha : Ea en X [e] l) (hg : Gl X "repr" := by rfl) (he : starEach [e] X.env = (false, eval e X.env) :: starEach [] X.env := by rfl) : E en X (.Call (.Name "repr" p) [e] [] pos) (lCB reprT l) :=
  e_cb (b_repr hgd hu) hg hm rfl ha (he := he)
end
theorem _root_.L2.Room.u66 {k : Nat} {A : Around} (r : Room k A) : A.units + 66 < cLine := by have := r.un; omega
/-! the law -/
section
variable {P : Program} {w : World} {K : Fr0} {mg : Str → Option Value} {base : Heap} {x : Str} {st : Stmt} {f : Addr} {fd : FuncData} {N ps : List Str} {k : Nat}
abbrev BodyBG (P : Program) (w : World) (K : Fr0) (mg : Str → Option Value) (base : Heap) (N : List Str) (x : Str) (st : Stmt) (f : Addr) (k : Nat) (sp : Sp2) : Prop :=
  ∀ (cdv : Value) (A : Around) (outer : List PySem.Env) (s : Shared) (H : Hp) (E : XK) (G : Gp) (Φ : QT) (ΦE : XK2) (a : Addr) (ns : List Int), Room k (A.deeper (envOfC x (defScope st) s.heap.objs.size f cdv)) → A.guards = some [] → OutX K H G ΦE E →
      ns.length ≤ 63 → (∀ H' G', HRel K [(H, G)] H' G' → SqG K H' G' a ns) → sp [.ref a] G Φ ΦE → ∃ l, Ess [(H, G)] (bx P w K mg base N x (defScope st) f cdv A outer s H E) (defBody st) l ∧ l (bodyL Φ) (slots0 N [.ref a]) G
theorem fnBG_of {sp : Sp2} (F : Fun K x x st f fd) (S : FnScope N ps (defScope st)) (len : ps.length = 1) (hbody : BodyBG P w K mg base N x st f k sp) : FnG P w K mg base (L2.CX P w) (k + 1) f fd ps (lowScr K sp) := by
  refine okG F S (fun vs H Q E ⟨a, ns, G, Φ, ΦE, e, _⟩ => by rw [e, len]; rfl) (fun cdv A outer s H vs Q E hr hg h => ?_)
  obtain ⟨a, ns, G, Φ, ΦE, rfl, hS, hn, g, q, k1, k2⟩ := h
  obtain ⟨l, b, q2⟩ := hbody cdv A outer s H E G Φ ΦE a ns hr hg k2 hn (fun H' G' g' => hS.step (g'.hist _ (List.mem_singleton.mpr rfl))) q
  exact ⟨_, b, slots0 N _, G, bodyL Φ, srel_start (.cons (.ref a) .nil), g.enter, q2, ends_body k1⟩
end
end Dv
namespace Vl
open PySem PySem.Spec PyProof.Rows L2 Dv
def shownP (p : PV) : Str := (pvd p).shown
/-- a list or a tuple of data, of which repr tells -/
def ShowOk (p : PV) : Prop := (match p with
    | .tup _ => True
    | .lst _ => True
    | _ => False) ∧ okP p = true ∧ ShowD (pvd p)
def reprP : List PV → (Cell → Prop) → Prop
  | [p], k => ShowOk p ∧ k (.fr (.str (shownP p)))
  | _, _ => False
theorem cv_repr : CbV reprT reprP := fun F G ts ps Ψ Φ s r hh k => by
  match ps, hh with
  | [p], hh =>
    obtain ⟨t, rfl, r1⟩ := r.one
    obtain ⟨⟨h0, h1, h2⟩, hh⟩ := hh
    have hd := (ok_dat h1 (r1.rp s)).1
    refine ⟨?_, _, hd, h2, k _ _ _ nil0 hh .no (.str _)⟩
    cases p with
    | tup ps => obtain ⟨us, rfl, _⟩ := r1; exact trivial
    | lst ps => obtain ⟨a, us, rfl, _⟩ := r1; exact trivial
    | _ => exact h0.elim
section
variable {P : Program} {w : World} {K : Fr0} {mg : Str → Option Value} {base : Heap} {x qual : Str} {st : Stmt} {N ps : List Str} {k n : Nat} {spv : SpV} {io : List Nat} {f : Addr} {fd : FuncData}
abbrev BodyVG (P : Program) (w : World) (K : Fr0) (mg : Str → Option Value) (base : Heap) (N : List Str) (qual : Str) (scope : Scope) (k : Nat) (body : List Stmt) (io : List Nat) (spv : SpV) : Prop :=
  ∀ (f : Addr) (cdv : Value) (A : Around) (outer : List PySem.Env) (s : Shared) (H : Hp) (E : XK) (en : En), Room k (A.deeper (envOfC qual scope s.heap.objs.size f cdv)) → A.guards = some [] →
    ∃ vs, Evss en (bx P w K mg base N qual scope f cdv A outer s H E) io body vs ∧ ∀ σ Ψ ΨE, spv σ Ψ ΨE → vs (endsV io Ψ) σ
abbrev KnVG (P : Program) (w : World) (K : Fr0) (mg : Str → Option Value) (base : Heap) (k : Nat) (x : Str) (n : Nat) (io : List Nat) (spv : SpV) : Prop := KnG P w K mg base k x (lowSpV n io spv) []
theorem knvg_of (D : Df K mg x st ps) (S : FnScope N ps (defScope st)) (hn : n = ps.length) (hN : n ≤ N.length) (hb : BodyVG P w K mg base N x (defScope st) k (defBody st) io spv) : KnVG P w K mg base (k + 1) x n io spv :=
  kng_of D S (fun ts G Φ ΦE h => h.1.trans hn) fun f cdv A outer s H E ts G Φ ΦE hr hg ho hsp => by
    obtain ⟨vs, h1, h2⟩ := hb f cdv A outer s H E [(H, G)] hr hg
    exact body_low h1 hN h2 hsp
abbrev BodyLawG (P : Program) (w : World) (K : Fr0) (mg : Str → Option Value) (base : Heap) (N : List Str) (x : Str) (st : Stmt) (f : Addr) (k : Nat) : Prop :=
  ∀ (cdv : Value) (A : Around) (outer : List PySem.Env) (s : Shared) (H : Hp) (E : XK) (en : En) (a : Addr) (ns : List Int), Room k (A.deeper (envOfC x (defScope st) s.heap.objs.size f cdv)) → A.guards = some [] → ns.length ≤ 63 → (∀ H' G', HRel K en H' G' → SqG K H' G' a ns) →
    ∃ st0 rest vs, defBody st = st0 :: rest ∧ Es en (bx P w K mg base N x (defScope st) f cdv A outer s H E) st0 (lAsg (fun S G Φ => lVar 0 S G fun t G1 => t = .ref a ∧ spBegin [.ref a] G1 Φ noX) (gN 1)) ∧
      Evss en (bx P w K mg base N x (defScope st) f cdv A outer s H E) [] rest vs ∧ vs endsL (law0 a)
theorem law_low {en : En} {X : Cx} {st0 : Stmt} {rest : List Stmt} {vs : VS} {G : Gp} {Φ : QT} {a : Addr} (hN : 2 ≤ X.N.length) (h0 : Es en X st0 (lAsg (fun S G Φ => lVar 0 S G fun t G1 => t = .ref a ∧ spBegin [.ref a] G1 Φ noX) (gN 1))) (hr2 : Evss en X [] rest vs) (hv : vs endsL (law0 a))
    (hsp : spLawT [.ref a] G Φ noX) : ∃ l, Ess en X (st0 :: rest) l ∧ l (bodyL Φ) (slots0 X.N [.ref a]) G := by
  obtain ⟨a', e', hnd, q⟩ := hsp
  refine ⟨_, es_cons h0 hr2, ?_⟩
  have hat : (slots0 X.N [T.ref a])[0]? = some (some (.ref a)) := rfl
  have hlen : (slots0 X.N [T.ref a]).length = X.N.length := by
    unfold slots0
    rw [List.length_append, List.length_map, List.length_replicate]
    show 1 + (X.N.length - 1) = X.N.length
    omega
  simp only [lSeq, lAsg, lVar, sl_of hat]
  refine ⟨trivial, a, rfl, hnd, fun d hd => ?_⟩
  show ∃ G0, Sub G0 (gup G d (.drw 0)) ∧ lowVS X.N.length [] vs (bodyL Φ) ((slots0 X.N [T.ref a]).set 1 (some (.ref d))) G0
  refine ⟨_, Sub.refl _, ⟨(slots0 X.N [T.ref a]).set 1 (some (.ref d)), nil0⟩, G, fun i => if i = 1 then one d (.drw 0) else nil0, law0 a, endsL, ⟨?_, fun i hi => rfl, Sub.gup hd, fun a o e => (by cases e), fun _ _ => rfl, fun i a o e => ?_, fun i b e => ⟨?_, rfl⟩, fun i j b hij e => ?_, fun i c e => ?_⟩, hv, ?_⟩
  · rw [List.length_set, hlen]; rfl
  · split at e
    · obtain ⟨rfl, rfl⟩ := one_at e; exact gup_same
    · cases e
  · split at e
    · rw [one_ne e]; exact hd
    · exact absurd rfl e
  · split at e
    · rename_i z
      rw [if_neg (fun y => hij (by rw [z, y]))]
      rfl
    · exact absurd rfl e
  · match i, e with
    | 0, e => cases e; exact ⟨.ref a, rfl, rfl⟩
    | 1, e =>
      cases e
      exact ⟨.ref d, List.getElem?_set_self (by rw [hlen]; omega), by rw [if_pos rfl]; exact ⟨d, rfl, rfl⟩⟩
  · refine ⟨fun _ _ _ _ _ q => q.elim, fun r σ' F' own' S' G' t hr x g r' => ?_, fun _ _ _ _ _ q => q.elim, fun _ _ _ _ _ q => q.elim⟩
    obtain rfl : t = .bl true := g.rdV r' hr
    exact rtF.sub (x.sub.trans g.sub) q
theorem lawVG_of (F : Fun K x x st f fd) (S : FnScope N ps (defScope st)) (len : ps.length = 1) (hN : 2 ≤ N.length) (hbody : BodyLawG P w K mg base N x st f k) : FnG P w K mg base (L2.CX P w) (k + 1) f fd ps (lowScr K spLawT) := by
  refine fnBG_of F S len fun cdv A outer s H E G Φ ΦE a ns hr hg ho hn hS hsp => ?_
  obtain ⟨st0, rest, vs, eb, h0, hr2, hv⟩ := hbody cdv A outer s H E [(H, G)] a ns hr hg hn hS
  rw [eb]
  exact law_low hN h0 hr2 hv hsp
end
end Vl
namespace Dv
open PySem PySem.Spec PyProof.Rows L2
/-! ### max, min, the length of the script, join -/
section
variable {X : Cx} {e o : Expr} {es : List Expr} {la : LE} {l : LA} {pos p apos : Pos} {en : En}
def int2T (f : Int → Int → Int) : RLT := fun ts G Φ => match ts with
  | [.int i, .int j] => Φ (.int (f i j)) G
  | _ => False
theorem int2_low {f : Int → Int → Int} {xs : List V} {H : Hp} {Q : VK} (h : lowC X.K en (int2T f) xs H Q) : ∃ i j, xs = [.int i, .int j] ∧ Q (.int (f i j)) H := by
  obtain ⟨ts, G, Φ, r, g, q, kk⟩ := h
  unfold int2T at q
  split at q
  · cases r with
    | cons h1 h2 =>
      cases h2 with
      | cons h3 h4 =>
        cases h4
        cases h1
        cases h3
        exact ⟨_, _, rfl, kk _ _ _ _ q (.int _) g (Step.refl H G)⟩
  · exact q.elim
theorem b_max (hc : X.calm = true) : CallR X (.builtin "max") (lowC X.K en (int2T fun i j => if j > i then j else i)) := CallR.weak (call_max2 hc) fun xs H Q h => int2_low h
theorem b_min (hc : X.calm = true) : CallR X (.builtin "min") (lowC X.K en (int2T fun i j => if j < i then j else i)) := CallR.weak (call_min2 hc) fun xs H Q h => int2_low h
theorem b_maxE {e1 : Expr} (hm : X.mg "max" = none) (ha : Ea en X [e, e1] l) (hg : Gl X "max" := by rfl) (hc : X.calm = true := by rfl) (he : starEach [e, e1] X.env = (false, eval e X.env) :: starEach [e1] X.env := by rfl) (hpl : (backTo pos (starEach [e1] X.env)).any (·.1) = false := by rfl) :
    E en X (.Call (.Name "max" p) [e, e1] [] pos) (lCB (int2T fun i j => if j > i then j else i) l) := e_cb (b_max hc) hg hm rfl ha (he := he) (hpl := hpl)
theorem b_minE {e1 : Expr} (hm : X.mg "min" = none) (ha : Ea en X [e, e1] l) (hg : Gl X "min" := by rfl) (hc : X.calm = true := by rfl) (he : starEach [e, e1] X.env = (false, eval e X.env) :: starEach [e1] X.env := by rfl) (hpl : (backTo pos (starEach [e1] X.env)).any (·.1) = false := by rfl) :
    E en X (.Call (.Name "min" p) [e, e1] [] pos) (lCB (int2T fun i j => if j < i then j else i) l) := e_cb (b_min hc) hg hm rfl ha (he := he) (hpl := hpl)
def scrT (a : Addr) (n : Nat) : RLT := fun ts G Φ => ts = [.ref a] ∧ Φ (.int n) G
theorem b_lenScr {a : Addr} {ns : List Int} (hS : ∀ H G, HRel X.K en H G → SqG X.K H G a ns) : CallR X (.builtin "len") (lowC X.K en (scrT a ns.length)) := by
  refine CallR.weak call_len_seq fun xs H Q ⟨ts, G, Φ, r, g, q, kk⟩ => ?_
  obtain ⟨rfl, q⟩ := q
  cases r with
  | cons h1 h2 =>
    cases h1
    cases h2
    refine ⟨a, ns.map V.int, rfl, .inl (hS H G g).sq, ?_⟩
    rw [List.length_map]
    exact kk _ _ _ _ q (.int _) g (Step.refl H G)
theorem b_lenScrE {a : Addr} {ns : List Int} (hm : X.mg "len" = none) (hS : ∀ H G, HRel X.K en H G → SqG X.K H G a ns) (ha : Ea en X [e] l) (hg : Gl X "len" := by rfl) (he : starEach [e] X.env = (false, eval e X.env) :: starEach [] X.env := by rfl) :
    E en X (.Call (.Name "len" p) [e] [] pos) (lCB (scrT a ns.length) l) := e_cb (b_lenScr hS) hg hm rfl ha (he := he)
/-- x.join of a list or a tuple of texts, x written there -/
def joinK (x : Str) (xs : List T) (k : Str → Prop) : Prop := ∃ ss : List Str, xs = ss.map T.str ∧ (ss.map (·.length)).sum + ss.length * x.length ≤ 16777216 ∧ k (Txt.join x ss)
def joinT (x : Str) : RLT := fun ts G Φ => match ts with
  | [.tup xs] => joinK x xs fun y => Φ (.str y) G
  | [.ref a] => (match G a with
    | some (.lst xs) => joinK x xs fun y => Φ (.str y) G
    | _ => False)
  | _ => False
def rJoin (K : Fr0) (x : Str) : List V → Hp → VK → Prop := fun xs H Q => ∃ (p : Addr) (ys : List Str), xs = [.ref p] ∧ (SqL K H p (ys.map V.str) ∨ SqT K H p (ys.map V.str)) ∧ (ys.map (·.length)).sum + ys.length * x.length ≤ 16777216 ∧ Q (.str (Txt.join x ys)) H
theorem pe_joinC {x : Str} {j : Nat} {cp : Pos} {ta : TA} (ha : PA X [e] ta) (hs : starEach [e] X.env = [(false, eval e X.env)] := by rfl)
    (hbase : attributeBase (.Constant (.str x) j cp) "join" X.env (eval (.Constant (.str x) j cp) X.env) = eval (.Constant (.str x) j cp) X.env := by rfl) (hline : (apos.endLine == pos.line) = true := by rfl) :
    PE X (.Call (.Attribute (.Constant (.str x) j cp) "join" apos) [e] [] pos) (fun σ H Q => ta σ H fun xs H1 => rJoin X.K x xs H1 Q) := by
  refine ⟨fun pins s σ H Q I h => ?_⟩
  refine PySem.Call_method1 hbase hs hline (Calls.Constant_str ?_)
  refine ⟨"str", _, F.plainAttrs_str, F.slot_str_join, F.type_str_join, typeIs_str _ _ _, (fun _ e => nomatch e), Calls.callWith_builtin rfl (Calls.evalArgs_plain ?_)⟩
  have hA := ha.run pos pins { s with toks := s.toks + 1 } σ H _ (I.tok _) h
  rw [hs] at hA
  refine thn hA fun us s2 ⟨vs, H2, I2, r2, p, ys, e2, h1, h2, q⟩ => ?_
  exact mt_join pins s2 σ H2 (.str x) vs (.str x _) us Q I2 ⟨_, rfl⟩ r2 ⟨x, p, ys, rfl, e2, h1, h2, q⟩
theorem e_join {x : Str} {j : Nat} {cp : Pos} (ha : Ea en X [e] l) (hs : starEach [e] X.env = [(false, eval e X.env)] := by rfl)
    (hbase : attributeBase (.Constant (.str x) j cp) "join" X.env (eval (.Constant (.str x) j cp) X.env) = eval (.Constant (.str x) j cp) X.env := by rfl) (hline : (apos.endLine == pos.line) = true := by rfl) :
    E en X (.Call (.Attribute (.Constant (.str x) j cp) "join" apos) [e] [] pos) (lCB (joinT x) l) := by
  refine PE.weak (pe_joinC ha hs hbase hline) fun σ H Q ⟨S, G, Φ, s, g, q0, k⟩ => ⟨S, G, _, s, g, q0, fun ts G1 vs H1 q1 r1 g1 s1 => ?_⟩
  unfold joinT at q1
  split at q1
  · cases r1 with
    | cons h1 h2 =>
      cases h2
      cases h1 with
      | tup hs rs =>
        obtain ⟨ss, rfl, hl, q1⟩ := q1
        have e := rs.strsI
        subst e
        exact ⟨_, ss, rfl, .inr hs, hl, k _ _ _ _ q1 (.str _) g1 s1⟩
  · cases r1 with
    | cons h1 h2 =>
      cases h1
      cases h2
      split at q1
      · rename_i xs e1
        obtain ⟨ss, rfl, hl, q1⟩ := q1
        obtain ⟨vs, h1, r2⟩ := g1.obj _ _ e1
        have e := r2.strsI
        subst e
        exact ⟨_, ss, rfl, .inl (SqL.of h1), hl, k _ _ _ _ q1 (.str _) g1 s1⟩
      · exact q1.elim
  · exact q1.elim
end
end Dv
namespace Vl
open PySem PySem.Spec PyProof.Rows L2 Dv
def ssetP : List PV → (Cell → Prop) → Prop
  | [.lst xs], k => ∃ ss : List Str, xs = ss.map PV.str ∧ ss.length ≤ 1000 ∧ ∀ ys, sortedS ys = true → ys.Nodup → (∀ y, y ∈ ys ↔ y ∈ ss) → ys.length ≤ ss.length → k (.ow (.lst (ys.map PV.str)))
  | [.tup xs], k => ∃ ss : List Str, xs = ss.map PV.str ∧ ss.length ≤ 1000 ∧ ∀ ys, sortedS ys = true → ys.Nodup → (∀ y, y ∈ ys ↔ y ∈ ss) → ys.length ≤ ss.length → k (.ow (.lst (ys.map PV.str)))
  | _, _ => False
theorem cv_sset : CbV ssetT ssetP := fun F G ts ps Ψ Φ s r hh k => by
  match ps, hh with
  | [.lst xs], hh =>
    obtain ⟨t, rfl, a, us, rfl, h1, r'⟩ := r.one
    obtain ⟨ss, rfl, hl, hh⟩ := hh
    have e := r'.strs
    subst e
    simp only [ssetT, h1]
    exact ⟨ss, rfl, hl, fun ys h2 h3 h4 h5 p hp => k _ _ _ _ (hh ys h2 h3 h4 h5) (Fresh.new hp) ⟨p, _, rfl, rfl, strs_rp ys⟩⟩
  | [.tup xs], hh =>
    obtain ⟨t, rfl, us, rfl, r'⟩ := r.one
    obtain ⟨ss, rfl, hl, hh⟩ := hh
    have e := r'.strs
    subst e
    exact ⟨ss, rfl, hl, fun ys h2 h3 h4 h5 p hp => k _ _ _ _ (hh ys h2 h3 h4 h5) (Fresh.new hp) ⟨p, _, rfl, rfl, strs_rp ys⟩⟩
def int2P (f : Int → Int → Int) : List PV → (Cell → Prop) → Prop
  | [.int i, .int j], k => k (.fr (.int (f i j)))
  | _, _ => False
theorem cv_int2 {f : Int → Int → Int} : CbV (int2T f) (int2P f) := fun F G ts ps Ψ Φ s r hh k => by
  match ps, hh with
  | [.int i, .int j], hh =>
    obtain ⟨t, u, rfl, r1, r2⟩ := r.two
    cases r1
    cases r2
    exact k _ _ _ nil0 hh .no (.int _)
def joinP (x : Str) : List PV → (Cell → Prop) → Prop
  | [.lst xs], k => ∃ ss : List Str, xs = ss.map PV.str ∧ (ss.map (·.length)).sum + ss.length * x.length ≤ 16777216 ∧ k (.fr (.str (Txt.join x ss)))
  | [.tup xs], k => ∃ ss : List Str, xs = ss.map PV.str ∧ (ss.map (·.length)).sum + ss.length * x.length ≤ 16777216 ∧ k (.fr (.str (Txt.join x ss)))
  | _, _ => False
theorem cv_join {x : Str} : CbV (joinT x) (joinP x) := fun F G ts ps Ψ Φ s r hh k => by
  match ps, hh with
  | [.lst xs], hh =>
    obtain ⟨t, rfl, a, us, rfl, h1, r'⟩ := r.one
    obtain ⟨ss, rfl, hl, hh⟩ := hh
    have e := r'.strs
    subst e
    simp only [joinT, h1]
    exact ⟨ss, rfl, hl, k _ _ _ nil0 hh .no (.str _)⟩
  | [.tup xs], hh =>
    obtain ⟨t, rfl, us, rfl, r'⟩ := r.one
    obtain ⟨ss, rfl, hl, hh⟩ := hh
    have e := r'.strs
    subst e
    exact ⟨ss, rfl, hl, k _ _ _ nil0 hh .no (.str _)⟩
/-- the length of the script -/
def vScr (a : Addr) (n j : Nat) : VE := fun σ Ψ => σ j = some (.ab (scr a)) ∧ Ψ (.v (.fr (.int n))) σ
theorem ev_scr {X : Cx} {en : En} {io : List Nat} {e : Expr} {a : Addr} {n j : Nat} (h : E en X e (lCB (scrT a n) (lCons (lVar j) lNil))) : Ev en X io e (vScr a n j) := by
  refine weakL h fun S G Φ ⟨w, F, own, σ, Ψ, g, ⟨q1, q⟩, k⟩ => ?_
  obtain ⟨t, e1, rfl⟩ := g.cell j _ q1
  simp only [lCB, lCons, lNil, lVar, sl_of e1]
  exact ⟨rfl, k _ _ _ _ _ _ q .refl g ⟨nil0, .int _, .nil⟩⟩
end Vl
namespace Dv
open PySem PySem.Spec PyProof.Rows L2
/-! ### calls that name all their arguments, in an order of their own -/
def permL {α : Type} (ix : List Nat) (ws : List α) : List α := ix.filterMap (ws[·]?)
def permK {α : Type} (ix : List Nat) (m : Nat) (us ws : List α) : List α := if us.length = 0 ∧ ws.length = m then permL ix ws else []
section
variable {P : Program} {w : World} {K : Fr0} {mg : Str → Option Value} {base : Heap} {x : Str} {st : Stmt} {N ps ks : List Str} {k : Nat} {sp : Sp2} {ix : List Nat}
theorem permL_vals {vs : List V} {us : List Value} (r : Vals vs us) : Vals (permL ix vs) (permL ix us) := by
  induction ix with
  | nil => exact .nil
  | cons i ix ih =>
    unfold permL at ih ⊢
    rw [List.filterMap_cons, List.filterMap_cons]
    by_cases hi : i < vs.length
    · obtain ⟨u, e, q⟩ := r.get (List.getElem?_eq_getElem hi)
      rw [List.getElem?_eq_getElem hi, e]
      exact .cons q ih
    · rw [List.getElem?_eq_none (by omega), List.getElem?_eq_none (by rw [← r.length]; omega)]
      exact ih
theorem permL_rel {H : Hp} {vs : List V} {ts : List T} (r : RelL K H vs ts) : RelL K H (permL ix vs) (permL ix ts) := by
  induction ix with
  | nil => exact .nil
  | cons i ix ih =>
    unfold permL at ih ⊢
    rw [List.filterMap_cons, List.filterMap_cons]
    by_cases hi : i < ts.length
    · obtain ⟨u, e, q⟩ := r.get (List.getElem?_eq_getElem hi)
      rw [List.getElem?_eq_getElem hi, e]
      exact .cons q ih
    · rw [List.getElem?_eq_none (by rw [r.length]; omega), List.getElem?_eq_none (by omega)]
      exact ih
structure KnW (P : Program) (w : World) (K : Fr0) (mg : Str → Option Value) (base : Heap) (k : Nat) (x : Str) (ks : List Str) (ix : List Nat) (sp : Sp2) : Prop where
  ex : ∃ (f : Addr) (fd : FuncData) (ps : List Str), FnOk P w K mg base (L2.CX P w) k f fd ps (lowSp K sp) ∧ mg x = some (.ref f) ∧ PySem.W.keepIn K (.ref f) = true ∧ KBinds K fd ps ks (permK ix ks.length) (permK ix ks.length)
theorem knW_of (D : Df K mg x st ps) (S : FnScope N ps (defScope st)) (len : ∀ ts G Φ ΦE, sp ts G Φ ΦE → ts.length = ps.length) (hbody : ∀ f, BodyOk P w K mg base N x (defScope st) f k (defBody st) sp) (hp : ps.length ≠ 0)
    (hb : ∀ (kV doc pm : Value) (an : Option Addr) (cdv ct : Value) (ws : List Value), ws.length = ks.length → bindArgs (PySem.W.fnOf x x (defArgs st) (defBody st) (defScope st) .none kV doc pm an cdv ct) ⟨[], ks.zip ws⟩ = pure (ps.zip (permL ix ws))) :
    KnW P w K mg base (k + 1) x ks ix sp := by
  obtain ⟨f, fd, F, hm, _⟩ := D.ex
  refine ⟨f, fd, ps, fn_T F S len (hbody f), hm, F.kp, ⟨fun s us ws _ hl => ?_, fun r1 r2 => ?_⟩⟩
  · unfold permK at hl ⊢
    by_cases c : us.length = 0 ∧ ws.length = ks.length
    · rw [if_pos c] at hl ⊢
      obtain ⟨oc, od, kV, doc, pm, an, cdv, ct, osl, rfl, lk, hcd⟩ := F.ex
      have e := hb kV doc pm an cdv ct ws c.2
      obtain rfl := List.length_eq_zero_iff.mp c.1
      intro M A E Q q
      rw [e]
      exact wpAny_pure q
    · rw [if_neg c] at hl
      exact absurd hl.symm hp
  · unfold permK
    rw [← r1.length, ← r2.length]
    split
    · exact permL_vals r2
    · exact .nil
end
section
variable {X : Cx} {l lk : LA} {pos p : Pos} {k : Nat} {x : Str} {sp : Sp2} {kws : List Keyword} {en : En} {ix : List Nat} {ks : List Str}
def lCallW (ix : List Nat) (m : Nat) (sp : Sp2) (lk : LA) : LE := fun S G Φ => lk S G fun us G2 => us.length = m ∧ sp (permL ix us) G2 Φ noX
theorem e_knW (F : KnW X.prog X.w X.K X.mg X.base k x ks ix sp) (hr : Room k X.A) (hkw : Ek en X kws lk) (hg : Gl X x := by rfl) (hall : (backToKw pos (keywordEach kws X.env)).all (·.1.isSome) = true := by rfl) (hks : (backToKw pos (keywordEach kws X.env)).filterMap (·.1) = ks := by rfl)
    (hdb : (x == ("__debug__" : Str)) = false := by decide) (hpl : ((backTo pos (starEach [] X.env)).any (·.1) || (backToKw pos (keywordEach kws X.env)).any (·.1.isNone)) = false := by rfl) :
    E en X (.Call (.Name x p) [] kws pos) (lCallW ix ks.length sp lk) := by
  obtain ⟨f, fd, ps, F, hm, hk, hb⟩ := F.ex
  refine PE.weak (pe_callK0 (E := lowX X.K en noX) F hr hg hm hk hb passN hkw hall hks hdb hpl) fun σ H Q ⟨S, G, Φ, s, g, q, kk⟩ => ?_
  refine ⟨S, G, _, s, g, q, fun us G2 ws H2 q2 r2 g2 s2 => ⟨permL ix us, G2, Φ, noX, ?_, g2.nil, q2.2, fun t G' v H' a b c d => kk t G' v H' a b (g2.back c d) (s2.trans d), fun C fs G' H' cls d a b c d' => a.elim⟩⟩
  unfold permK
  rw [if_pos ⟨rfl, by rw [r2.length]; exact q2.1⟩]
  exact permL_rel r2
end
end Dv
namespace Vl
open PySem PySem.Spec PyProof.Rows L2 Dv
section
variable {en : En} {X : Cx} {io ioc ix : List Nat} {e : Expr} {kws : List Keyword} {vk : VA} {spv : SpV} {n m : Nat}
theorem ArL.perm {F : Gp} {S : S2} {ts : List T} {rs : List RV} (h : ArL F S ts rs) : ArL F S (permL ix ts) (permL ix rs) := by
  have at' : ∀ {ts : List T} {rs : List RV}, ArL F S ts rs → ∀ i : Nat, (ts[i]? = none ∧ rs[i]? = none) ∨ ∃ t r, ts[i]? = some t ∧ rs[i]? = some r ∧ ArR F S t r := by
    intro ts
    induction ts with
    | nil =>
      intro rs h i
      cases rs with
      | nil => exact .inl ⟨rfl, rfl⟩
      | cons _ _ => exact h.elim
    | cons t ts ih =>
      intro rs h i
      cases rs with
      | nil => exact h.elim
      | cons r rs =>
        cases i with
        | zero => exact .inr ⟨t, r, rfl, rfl, h.1⟩
        | succ i => exact ih h.2 i
  induction ix with
  | nil => exact trivial
  | cons i ix ih =>
    unfold permL at ih ⊢
    rw [List.filterMap_cons, List.filterMap_cons]
    rcases at' h i with ⟨e1, e2⟩ | ⟨t, r, e1, e2, hr⟩
    · rw [e1, e2]; exact ih
    · rw [e1, e2]; exact ⟨hr, ih⟩
theorem knWv_of {P : Program} {w : World} {K : Fr0} {mg : Str → Option Value} {base : Heap} {x : Str} {st : Stmt} {N ps ks : List Str} {k : Nat} (D : Df K mg x st ps) (S : FnScope N ps (defScope st)) (hn : n = ps.length) (hN : n ≤ N.length) (hb : BodyV P w K mg base N x (defScope st) k (defBody st) io spv) (hp : ps.length ≠ 0)
    (hk : ∀ (kV doc pm : Value) (an : Option Addr) (cdv ct : Value) (ws : List Value), ws.length = ks.length → bindArgs (PySem.W.fnOf x x (defArgs st) (defBody st) (defScope st) .none kV doc pm an cdv ct) ⟨[], ks.zip ws⟩ = pure (ps.zip (permL ix ws))) :
    KnW P w K mg base (k + 1) x ks ix (lowSpV n io spv) := knW_of D S (fun ts G Φ ΦE h => h.1.trans hn) (fun f => bodyV_ok hN hb f) hp hk
def vCallW (ix : List Nat) (m n : Nat) (ioc : List Nat) (sp : SpV) (vk : VA) : VE := fun σ Ψ => vk σ fun rs σ1 => rs.length = m ∧ match argV ioc 0 (permL ix rs) σ1 with
  | some (as, σ3) => as.length = n ∧ (slA as).Nodup ∧ sp (argS σ3 as) (fun c σr => Ψ (.v c) (backV σr 0 as σ3)) noXV
  | none => False
theorem ev_callW (he : ∀ lk, Ek en X kws lk → E en X e (lCallW ix m (lowSpV n ioc spv) lk)) (hk : Evk en X io kws vk) : Ev en X io e (vCallW ix m n ioc spv vk) := weakL (he _ hk) fun S G Φ ⟨w, F, own, σ, Ψ, g, q, k⟩ => by
  refine ⟨w, F, own, σ, _, g, q, fun rs σ1 F1 own1 G1 ts q1 x1 g1 r1 => ?_⟩
  obtain ⟨h1, q2⟩ := q1
  refine ⟨r1.len.trans h1, ?_⟩
  split at q2
  · rename_i as σ3 e3
    obtain ⟨F3, own3, g3, x3, a3⟩ := argV_ok g1 (ArL.perm r1) e3
    have := call_low (ioc := ioc) (dts := []) (dps := []) (n := n) (fun F => .nil) g3 a3 q2.1 q2.2.1 (by simpa using q2.2.2) fun r σ' F' own' G' t h1 x h2 h3 => k r σ' F' own' G' t h1 ((x1.trans x3).trans x) h2 h3
    simpa using this
  · exact q2.elim
end
end Vl
namespace Vl
open PySem PySem.Spec PyProof.Rows L2 Dv
/-! ### what repr tells of without trouble -/
mutual
def shP : PV → Bool
  | .non => true
  | .bl _ => true
  | .str _ => true
  | .int i => decide (-999999999999 ≤ i ∧ i ≤ 999999999999)
  | .tup ts => shL ts
  | .lst ts => shL ts
  | _ => false
def shL : List PV → Bool
  | [] => true
  | t :: ts => shP t && shL ts
end
mutual
def wtP : PV → Nat
  | .str x => x.length
  | .int _ => 41
  | .tup ts => wtL ts
  | .lst ts => wtL ts
  | _ => 0
def wtL : List PV → Nat
  | [] => 0
  | t :: ts => wtP t + 1 + wtL ts
end
theorem log_lt {i : Int} (h : -999999999999 ≤ i ∧ i ≤ 999999999999) : i.natAbs.log2 < 40 := by
  by_cases z : i.natAbs = 0
  · rw [z]; decide
  · rw [Nat.log2_lt z]
    have : (2 : Nat) ^ 40 = 1099511627776 := by decide
    omega
mutual
theorem sh_ok : ∀ {p : PV}, shP p = true → (pvd p).showable = true ∧ (pvd p).intsShort 13 = true ∧ (pvd p).weight ≤ wtP p
  | .non, _ => ⟨rfl, rfl, Nat.le_refl _⟩
  | .bl _, _ => ⟨rfl, rfl, Nat.le_refl _⟩
  | .str x, _ => ⟨rfl, rfl, Nat.le_refl _⟩
  | .int i, h => by
    have h : -999999999999 ≤ i ∧ i ≤ 999999999999 := of_decide_eq_true h
    have hl := log_lt h
    refine ⟨?_, ?_, ?_⟩
    · show decide (i.natAbs.log2 < 1920) = true
      exact decide_eq_true (by omega)
    · exact intsShort_of_noneOrInC (lo := -999999999999) (hi := 999999999999) (by decide) (by decide) (.int i) (by simp [noneOrInC]; omega)
    · show (if i == 0 then 0 else i.natAbs.log2 + 1) ≤ 41
      split
      · exact Nat.zero_le _
      · omega
  | .tup ts, h => by
    obtain ⟨h1, h2, h3⟩ := shL_ok (by simpa [shP] using h)
    exact ⟨by simpa [pvd, PyData.showable] using h1, by simpa [pvd, PyData.intsShort] using h2, by simpa [pvd, PyData.weight, wtP] using h3⟩
  | .lst ts, h => by
    obtain ⟨h1, h2, h3⟩ := shL_ok (by simpa [shP] using h)
    exact ⟨by simpa [pvd, PyData.showable] using h1, by simpa [pvd, PyData.intsShort] using h2, by simpa [pvd, PyData.weight, wtP] using h3⟩
  | .ty _, h => by simp [shP] at h
  | .dic _, h => by simp [shP] at h
  | .ins _ _, h => by simp [shP] at h
theorem shL_ok : ∀ {ps : List PV}, shL ps = true → PyData.showableAll (pvdL ps) = true ∧ PyData.intsShortAll 13 (pvdL ps) = true ∧ PyData.weightAll (pvdL ps) ≤ wtL ps
  | [], _ => ⟨rfl, rfl, Nat.le_refl _⟩
  | t :: ts, h => by
    rw [shL, Bool.and_eq_true] at h
    obtain ⟨a1, a2, a3⟩ := sh_ok h.1
    obtain ⟨b1, b2, b3⟩ := shL_ok h.2
    refine ⟨by simp [pvdL, PyData.showableAll, a1, b1], by simp [pvdL, PyData.intsShortAll, a2, b2], ?_⟩
    simp only [pvdL, PyData.weightAll, wtL]
    omega
end
mutual
theorem ok_can : ∀ {p : PV}, okP p = true → (pvd p).canLay0 = true ∧ (pvd p).depth = dpP p
  | .non, _ => ⟨rfl, rfl⟩
  | .bl _, _ => ⟨rfl, rfl⟩
  | .int _, _ => ⟨rfl, rfl⟩
  | .str x, h => ⟨by simpa [pvd, PyData.canLay0, okP] using h, rfl⟩
  | .tup ps, h => by
    obtain ⟨h2, h3⟩ := okL_can (ps := ps) (by simpa [okP] using h)
    exact ⟨by simpa [pvd, PyData.canLay0] using h2, by simp [pvd, PyData.depth, dpP, h3]⟩
  | .lst ps, h => by
    obtain ⟨h2, h3⟩ := okL_can (ps := ps) (by simpa [okP] using h)
    exact ⟨by simpa [pvd, PyData.canLay0] using h2, by simp [pvd, PyData.depth, dpP, h3]⟩
  | .ty _, h => by simp [okP] at h
  | .dic _, h => by simp [okP] at h
  | .ins _ _, h => by simp [okP] at h
theorem okL_can : ∀ {ps : List PV}, okL ps = true → PyData.canLayAll0 (pvdL ps) = true ∧ PyData.depthAll (pvdL ps) = dpL ps
  | [], _ => ⟨rfl, rfl⟩
  | p :: ps, h => by
    have h' : okP p = true ∧ okL ps = true := by simpa [okL] using h
    obtain ⟨a2, a3⟩ := ok_can h'.1
    obtain ⟨b2, b3⟩ := okL_can h'.2
    exact ⟨by simp [pvdL, PyData.canLayAll0, a2, b2], by simp [pvdL, PyData.depthAll, dpL, a3, b3]⟩
end
def seqQ : PV → Bool
  | .tup _ => true
  | .lst _ => true
  | _ => false
theorem show_ok {p : PV} (h0 : seqQ p = true) (ok : okP p = true) (sh : shP p = true) (dp : dpP p ≤ 64) (wt : wtP p ≤ 2 ^ 20) : ShowOk p := by
  obtain ⟨a1, a2, a3⟩ := sh_ok sh
  obtain ⟨c1, c2⟩ := ok_can ok
  refine ⟨?_, ok, a1, by rw [c2]; exact dp, ?_, PyData.hasDict_of_canLay _ c1⟩
  · cases p <;> simp_all [seqQ]
  · have hl : PyData.layable0 (pvd p) = true := by
      unfold PyData.layable0
      simp only [Bool.and_eq_true, decide_eq_true_eq]
      exact ⟨⟨c1, by rw [c2]; exact dp⟩, by omega⟩
    have := shown_le13 hl a2
    rw [sizeLine_eq]
    omega
theorem shL_iff : ∀ {ts : List PV}, shL ts = true ↔ ∀ t ∈ ts, shP t = true
  | [] => by simp [shL]
  | t :: ts => by rw [shL, Bool.and_eq_true, shL_iff]; simp
theorem wtL_le {B : Nat} : ∀ {ts : List PV}, (∀ t ∈ ts, wtP t ≤ B) → wtL ts ≤ ts.length * (B + 1)
  | [], _ => Nat.zero_le _
  | t :: ts, h => by
    have h1 := h t List.mem_cons_self
    have h2 := wtL_le fun t ht => h t (List.mem_cons_of_mem _ ht)
    rw [wtL, List.length_cons, Nat.succ_mul]
    omega
end Vl
namespace Dv
open PySem PySem.Spec PyProof.Rows L2
/-! ### two names at once, one of them read by a comprehension -/
theorem s_parT {X : Cx} {en : En} {a b o : Expr} {l : LA} {j k k2 : Nat} {pos pt2 : Pos} {us : List Nat} (ha : Ea en X [a, b] l) (hg : Eg X o (gT 2 (gCons2 (gN j) (gCons2 (gN k) gNil2))) us)
    (hs : swapsWithSole [o] (.Tuple [a, b] k2 pt2) pos.line X.env = pure false := by rfl) (hw : swappedStores [o] (.Tuple [a, b] k2 pt2) X.env = pure none := by rfl) (h1 : (assignEach [o] X.env).map (·.2) = [assign o X.env] := by rfl) :
    Es en X (.Assign [o] (.Tuple [a, b] k2 pt2) pos) (lPar j k l) := PS.weak (ps_asg (pe_tup ha) hg hs hw h1) fun D σ H ⟨S, G, L, s, g, q, en⟩ => by
  refine ⟨S, G, _, s, g, q, fun ts G1 vs H1 q1 r1 g1 s1 => ?_⟩
  split at q1
  · refine ⟨by rw [r1.length, sizeLine_eq]; exact Nat.le_trans (show 2 ≤ 1000 by decide) (by decide), fun p hp => ?_⟩
    obtain ⟨r2, g2, s2⟩ := tup_laid g1 hp r1
    exact ⟨_, S, _, r2, s.stay ((s1.trans s2).stay g), rfl, fun σ' s' _ => en.nx _ G1 σ' _ q1 s' g2 (s1.trans s2)⟩
  · exact q1.elim
end Dv
namespace Vl
open PySem PySem.Spec PyProof.Rows L2 Dv
theorem evs_parT {X : Cx} {en : En} {io : List Nat} {a b : Expr} {va vb : VE} {st : Stmt} {j k : Nat} {x y : Str} (he : ∀ l, Ea en X [a, b] l → Es en X st (lPar j k l)) (hi : X.N[j]? = some x) (hj : X.N[k]? = some y) (hij : j ≠ k) (ha : Ev en X io a va) (hb : Ev en X io b vb) (hio : j ∉ io := by decide) (hio2 : k ∉ io := by decide)
    (hs1 : starEach [a, b] X.env = (false, eval a X.env) :: starEach [b] X.env := by rfl) (hs2 : starEach [b] X.env = (false, eval b X.env) :: starEach [] X.env := by rfl) : Evs en X io st (vPar j k va vb) := by
  refine weakS (he _ (ea_cons ha (ea_cons hb ea_nil hs2) hs1)) fun L S G ⟨w, F, own, σ, VL, g, q, kk⟩ => ?_
  have fin : ∀ {F3 : Gp} {own3 : Nat → Gp} {S : S2} {G : Gp} {σ4 : SV} {c1 c2 : Cell} {t u : T} {H1 H2 : Gp}, VRel (fxo X.N.length io w) F3 own3 S G σ4 → CellR F3 H1 t c1 → CellR F3 H2 u c2 → Tmp (fxo X.N.length io w) F3 own3 G H1 → Tmp (fxo X.N.length io w) F3 own3 G H2 → (∀ a, H2 a ≠ none → H1 a = none) →
      ∃ own', VRel (fxo X.N.length io w) F3 own' ((S.set j (some t)).set k (some u)) G (vset (vset σ4 j (some c1)) k (some c2)) := by
    intro F3 own3 S G σ4 c1 c2 t u H1 H2 g3 c1r c2r m1 m2 hd
    have g4 := g3.put m1 (idx_lt hi) hio c1r
    exact ⟨_, g4.put (H := H2) ⟨m2.sub, m2.dF, fun a i e => by
      by_cases z : i = j
      · subst z; rw [oset_same]; exact hd a e
      · rw [oset_ne z]; exact m2.dO a i e⟩ (idx_lt hj) hio2 c2r⟩
  refine ⟨w, F, own, σ, _, g, q, fun r1 σ1 F1 own1 G1 t q1 x1 g1 rr1 => ?_⟩
  cases r1 with
  | v c1 =>
    obtain ⟨H1, c1r, m1⟩ := rr1
    refine ⟨⟨w.S0, uni w.Fr H1⟩, F1, own1, σ1, _, g1.hold m1, q1, fun r2 σ2 F2 own2 G2 u q2 x2 g2 rr2 => ?_⟩
    simp only [Vl.giv] at q2
    split at q2
    · rename_i c2 σ4 e4
      obtain ⟨F3, own3, H2, g3, x3, c2r, m2⟩ := g2.giv rr2 e4
      obtain ⟨g4, m1'⟩ := VRel.unhold (fx := fxo X.N.length io w) g3 fun a e => (m1.dF a e).2
      have hd : ∀ a, H2 a ≠ none → H1 a = none := fun a e => by
        cases z : H1 a with
        | none => rfl
        | some o =>
          have h1 := (m2.dF a e).2
          have h2 : uni w.Fr H1 a = some o := uni_at (fun z => (m1.dF a z).2) z
          rw [show (fxo X.N.length io ⟨w.S0, uni w.Fr H1⟩).Fr a = uni w.Fr H1 a from rfl, h2] at h1
          cases h1
      have m2' : Tmp (fxo X.N.length io w) F3 own3 G2 H2 := ⟨m2.sub, fun a e => ⟨(m2.dF a e).1, by
        cases z : w.Fr a with
        | none => exact z
        | some o =>
          have h1 := (m2.dF a e).2
          rw [show (fxo X.N.length io ⟨w.S0, uni w.Fr H1⟩).Fr a = uni w.Fr H1 a from rfl, sub_uni _ _ z] at h1
          cases h1⟩, m2.dO⟩
      obtain ⟨own', g5⟩ := fin g4 ((c1r.sub x2.sub).sub x3.sub) c2r m1' m2' hd
      exact kk.nx _ _ _ _ _ q2 ((x1.trans x2).trans x3) g5
    · exact q2.elim
  | sl i =>
    refine ⟨w, F1, own1, σ1, _, g1, q1, fun r2 σ2 F2 own2 G2 u q2 x2 g2 rr2 => ?_⟩
    split at q2
    · rename_i c1 σ3 e3
      split at q2
      · rename_i c2 σ4 e4
        have rr1 : RvR (fxo X.N.length io w) F2 own2 S G2 t (.sl i) := rr1
        cases r2 with
        | v c =>
          obtain ⟨H2, c2r, m2⟩ := rr2
          cases e4
          obtain ⟨g2', m2h⟩ : VRel (fxo X.N.length io ⟨w.S0, uni w.Fr H2⟩) F2 own2 S G2 σ2 ∧ True := ⟨g2.hold m2, trivial⟩
          obtain ⟨F3, own3, H1, g3, x3, c1r, m1⟩ := g2'.giv (r := .sl i) (t := t) rr1 e3
          obtain ⟨g4, m2'⟩ := VRel.unhold (fx := fxo X.N.length io w) g3 fun a e => (m2.dF a e).2
          have hd : ∀ a, H1 a ≠ none → H2 a = none := fun a e => by
            cases z : H2 a with
            | none => rfl
            | some o =>
              have h1 := (m1.dF a e).2
              have h2 : uni w.Fr H2 a = some o := uni_at (fun z => (m2.dF a z).2) z
              rw [show (fxo X.N.length io ⟨w.S0, uni w.Fr H2⟩).Fr a = uni w.Fr H2 a from rfl, h2] at h1
              cases h1
          have m1' : Tmp (fxo X.N.length io w) F3 own3 G2 H1 := ⟨m1.sub, fun a e => ⟨(m1.dF a e).1, by
            cases z : w.Fr a with
            | none => exact z
            | some o =>
              have h1 := (m1.dF a e).2
              rw [show (fxo X.N.length io ⟨w.S0, uni w.Fr H2⟩).Fr a = uni w.Fr H2 a from rfl, sub_uni _ _ z] at h1
              cases h1⟩, m1.dO⟩
          obtain ⟨own', g5⟩ := fin g4 c1r (c2r.sub x3.sub) m1' m2' fun a e => by
            cases z : H1 a with
            | none => rfl
            | some o => exact absurd (hd a (by rw [z]; simp)) e
          exact kk.nx _ _ _ _ _ q2 ((x1.trans x2).trans x3) g5
        | sl i2 =>
          obtain ⟨F3, own3, H1, g3, x3, c1r, m1⟩ := g2.giv rr1 e3
          obtain ⟨F4, own4, H2, g4, x4, c2r, m2⟩ := g3.giv (r := .sl i2) (t := u) rr2 e4
          have f1 : ∀ {σ σ' : SV} {i : Nat} {c : Cell}, Vl.giv σ (.sl i) = some (c, σ') → ∃ p, c = .fr p := by
            intro σ σ' i c e
            simp only [Vl.giv] at e
            split at e <;> cases e <;> exact ⟨_, rfl⟩
          obtain ⟨p1, rfl⟩ := f1 e3
          obtain ⟨p2, rfl⟩ := f1 e4
          obtain ⟨own', g5⟩ := fin (H1 := nil0) (H2 := nil0) g4 (c1 := .fr p1) (c2 := .fr p2) (Rp.sub c1r x4.sub) c2r .nil .nil fun a e => rfl
          exact kk.nx _ _ _ _ _ q2 (((x1.trans x2).trans x3).trans x4) g5
      · exact q2.elim
    · exact q2.elim
end Vl
namespace Dv
open PySem PySem.Spec PyProof.Rows L2
/-! ### all that stood still stands -/
theorem DrawR.kept {H H' : Hp} {d lg it : Addr} {n : Nat} {l t : Int} {ls is : List Int} (h : DrawR H d n lg it l t ls is) (k : ∀ b o, H b = some o → H' b = some o) : DrawR H' d n lg it l t ls is :=
  ⟨k _ _ h.hd, k _ _ h.hlg, k _ _ h.hit, h.ne, h.lpos, h.ipos, h.ilen, h.llen, h.l0, h.t0, h.tn⟩
theorem HRel.kept {K : Fr0} {en : En} {H H' : Hp} {G : Gp} (g : HRel K en H G) (k : ∀ b o, H b = some o → H' b = some o) : HRel K en H' G ∧ Step H G H' G ∧ Stay K H H' := by
  have hid : ∀ d n b, G d = some (.drw n) → Hid H' d b → Hid H d b := fun d n b e h => by
    obtain ⟨lg, it, l, t, ls, is, r⟩ := g.obj d _ e
    obtain ⟨lg', it', l', t', e', hb⟩ := h
    rw [k _ _ r.hd] at e'
    exact ⟨lg', it', l', t', by rw [r.hd]; exact e', hb⟩
  have st : Stay K H H' := ⟨fun p xs h => by
    rcases h with (h | ⟨u, h⟩) | h
    · exact .inl (.inl (k _ _ h))
    · exact .inl (.inr ⟨u, k _ _ h⟩)
    · exact .inr h, fun p o xs h => k _ _ h⟩
  have stp : Step H G H' G := ⟨fun b u e no => ⟨k b u e, fun z => no (z.elim .inl fun ⟨d, n, e', h⟩ => .inr ⟨d, n, e', hid d n b e' h⟩)⟩, fun b u e => ⟨u, k b u e⟩⟩
  refine ⟨⟨fun b u e => ?_, fun d n b e h => g.sep d n b e (hid d n b e h), g.one, fun e he => (g.hist e he).trans stp⟩, stp, st⟩
  have ob := g.obj b u e
  cases u with
  | lst ts => obtain ⟨vs, h, r⟩ := ob; exact ⟨vs, k _ _ h, r.stay st⟩
  | dic ts => obtain ⟨vs, h, r⟩ := ob; exact ⟨vs, k _ _ h, r.stay st⟩
  | fdic ob' vs ts => obtain ⟨h, r⟩ := ob; exact ⟨k _ _ h, r.stay st⟩
  | ins C ts => obtain ⟨dx, vs, h, r⟩ := ob; exact ⟨dx, vs, k _ _ h, r.stay st⟩
  | drw n => obtain ⟨lg, it, l, t, ls, is, h⟩ := ob; exact ⟨lg, it, l, t, ls, is, h.kept k⟩
/-! ### list(d.items()), of a dict that may be locked -/
def rItemsR : V → Hp → VK → Prop := fun x H Q => ∃ (d : Addr) (kvs : List (Key × V)), x = .ref d ∧ Rd H d (.dK kvs) ∧
  ∀ (H' : Hp) (p : Addr) (ts : List Addr), (∀ b o, H b = some o → H' b = some o) → H p = none → p ∉ ts → H' p = some (.lst (ts.map V.ref)) → Paired (fun (t : Addr) (q : Key × V) => H' t = some (.tup [L2.kV q.1, q.2])) ts kvs → Q (.ref p) H'
theorem pe_itemsR {X : Cx} {e : Expr} {te : TE} {p apos cpos pos : Pos} (hc : X.calm = true) (he : PE X e te) (hg : Gl X "list") (hm : X.mg "list" = none) (hbase : attributeBase e "items" X.env (eval e X.env) = eval e X.env := by rfl) (hline : (apos.endLine == cpos.line) = true := by rfl)
    (hs : starEach [.Call (.Attribute e "items" apos) [] [] cpos] X.env = (false, eval (.Call (.Attribute e "items" apos) [] [] cpos) X.env) :: starEach [] X.env := by rfl) :
    PE X (.Call (.Name "list" p) [.Call (.Attribute e "items" apos) [] [] cpos] [] pos) (fun σ H Q => te σ H fun x H1 => rItemsR x H1 Q) := by
  refine ⟨fun pins s σ H Q I h => wpAny_Call_Name_kw (ld_blt I hg hm rfl (PyProof.Rows.callWith_type1 ?_ hs rfl))⟩
  have hrun := he.run pins s σ H _ I h
  rw [hs]
  refine Calls.spliced_cons (wpAny_Call_method (T := "dict") (id := "dict.items") hbase rfl hline PySem.F.plainAttrs_dict PySem.F.slot_dict_items PySem.F.type_dict_items (thn hrun fun u z ⟨x, G, J, rx, d, kvs, ex, hd, q⟩ => ?_))
  rw [ex] at rx
  obtain rfl : u = Value.ref d := rx
  have ⟨n1, n2, vs, kv, dd⟩ := dk_rd J.hok hd
  have ⟨ep, hat⟩ := dd.dictAt
  have n3 := Paired.length kv
  have J2 : Inv X pins σ G { z with heap := z.heap.push { cls := .type "dict_items", data := .fields #[.ref d] } } := J.kept (t' := z.toks) fun _ _ y => Heap.get?_push_of_some _ y
  refine ⟨dd.typeIs, dd.mapOf.noDict, method_meetsIn PySem.F.slot_dict_items PySem.F.entry_dict_items rfl (PySem.evalArgs_none ⟨rfl, dd.typeIs, PySem.F.args_dict_items_1 _, _, meets_dict_items (mixKind X.prog X.w) d n2, ⟨vs, dd⟩, Calls.spliced_nil ?_⟩)⟩
  refine PySem.W.kdx_call (kvs := vs) (knd := mixKind X.prog X.w) (ep := ep) (J.ok.hd hc) ⟨_, Heap.get?_push_size _ rfl, rfl, rfl⟩ (hat.push _) (by omega) fun h' tk acc c as a1 a2 a3 a4 a5 => ?_
  have ⟨H', b1, b2, b3, b4, b5, b6, J3⟩ := LiI.items_laid (tk := tk) J2 n1 kv a1 a2 a3 a4 a5
  exact ⟨.ref _, H', J3, rfl, q H' _ as b1 b2 b4 b5 b6⟩
def pairT (kv : T × T) : T := .tup [kv.1, kv.2]
def lItems (la : LE) : LE := fun S G Φ => la S G fun t G1 => match t with
  | .ref a => (match G1 a with
    | some (.dic kvs) => ∀ p, G1 p = none → Φ (.ref p) (gup G1 p (.lst (kvs.map pairT)))
    | some (.fdic _ _ kvs) => ∀ p, G1 p = none → Φ (.ref p) (gup G1 p (.lst (kvs.map pairT)))
    | _ => False)
  | _ => False
section
variable {X : Cx} {e : Expr} {la : LE} {p apos cpos pos : Pos} {en : En}
theorem RelD.pairs {K : Fr0} {H : Hp} : ∀ {kvs : List (Key × V)} {ts : List (T × T)} {as : List Addr}, RelD K H kvs ts → Paired (fun (t : Addr) (q : Key × V) => H t = some (.tup [L2.kV q.1, q.2])) as kvs → RelL K H (as.map V.ref) (ts.map pairT)
  | _, _, _, .nil, .nil => .nil
  | _, _, _, .cons (k := k) r rs, .cons h hs => .cons (.tup (SqT.of h) (.cons (by cases k <;> constructor) (.cons r .nil))) (RelD.pairs rs hs)
theorem e_listItems (hm : X.mg "list" = none) (he : E en X e la) (hg : Gl X "list" := by rfl) (hc : X.calm = true := by rfl) (hbase : attributeBase e "items" X.env (eval e X.env) = eval e X.env := by rfl) (hline : (apos.endLine == cpos.line) = true := by rfl)
    (hs : starEach [.Call (.Attribute e "items" apos) [] [] cpos] X.env = (false, eval (.Call (.Attribute e "items" apos) [] [] cpos) X.env) :: starEach [] X.env := by rfl) :
    E en X (.Call (.Name "list" p) [.Call (.Attribute e "items" apos) [] [] cpos] [] pos) (lItems la) := by
  refine PE.weak (pe_itemsR hc he hg hm hbase hline hs) fun σ H Q ⟨S, G, Φ, s, g, q, k⟩ => ?_
  refine ⟨S, G, _, s, g, q, fun t G1 v H1 q1 r1 g1 s1 => ?_⟩
  have fin : ∀ {a : Addr} {vs : List (Key × V)} {kvs : List (T × T)}, Rd H1 a (.dK vs) → RelD X.K H1 vs kvs → (∀ p, G1 p = none → Φ (.ref p) (gup G1 p (.lst (kvs.map pairT)))) → rItemsR (.ref a) H1 Q := by
    intro a vs kvs h1 rd q1
    refine ⟨a, vs, rfl, h1, fun H' p ts hk hp hpts hl hpair => ?_⟩
    let H2 : Hp := fun b => if b = p then none else H' b
    have h2p : H2 p = none := if_pos rfl
    have h2n : ∀ b, b ≠ p → H2 b = H' b := fun b h => if_neg h
    have k2 : ∀ b o, H1 b = some o → H2 b = some o := fun b o e => by
      rw [h2n b fun z => by rw [z, hp] at e; cases e]
      exact hk b o e
    obtain ⟨g2, s2, st2⟩ := g1.kept k2
    have pr : ∀ {as : List Addr} {kv : List (Key × V)}, p ∉ as → Paired (fun (t : Addr) (q : Key × V) => H' t = some (.tup [L2.kV q.1, q.2])) as kv → Paired (fun (t : Addr) (q : Key × V) => H2 t = some (.tup [L2.kV q.1, q.2])) as kv := by
      intro as
      induction as with
      | nil => intro kv _ h; cases h; exact .nil
      | cons a as ih =>
        intro kv hn h
        cases h with
        | cons h1 h2 => exact .cons (by rw [h2n _ fun z => hn (by rw [z]; exact List.mem_cons_self)]; exact h1) (ih (fun z => hn (List.mem_cons_of_mem _ z)) h2)
    obtain ⟨g3, s3⟩ := lst_laid g2 h2p (RelD.pairs (rd.stay st2) (pr hpts hpair))
    have e2 : L2.upd H2 p (.lst (ts.map V.ref)) = H' := by
      funext b
      by_cases z : b = p
      · rw [z, upd_same, hl]
      · rw [upd_ne z, h2n b z]
    rw [e2] at g3 s3
    exact k _ _ _ _ (q1 p (g1.fresh hp)) (.ref p) g3 ((s1.trans s2).trans s3)
  split at q1
  · rename_i a
    split at q1
    · rename_i kvs e1
      obtain ⟨vs, h1, rd⟩ := g1.obj _ _ e1
      cases r1
      exact fin (.inl h1) rd q1
    · rename_i ob vs kvs e1
      obtain ⟨h1, rd⟩ := g1.obj _ _ e1
      cases r1
      exact fin (.inr ⟨_, h1⟩) rd q1
    · exact q1.elim
  · exact q1.elim
end
end Dv
namespace Vl
open PySem PySem.Spec PyProof.Rows L2 Dv
def pairP (kv : Key × PV) : PV := .tup [kP kv.1, kv.2]
def vItems (va : VE) : VE := fun σ Ψ => va σ fun r σ1 => match rd σ1 r with
  | some (.dic kvs) => Ψ (.v (.ow (.lst (kvs.map pairP)))) σ1
  | _ => False
theorem RpD.pairs {F : Gp} : ∀ {ts : List (T × T)} {ps : List (Key × PV)}, RpD F ts ps → RpL F (ts.map pairT) (ps.map pairP)
  | _, _, .nil => .nil
  | _, _, .cons h r => .cons (.tup (.cons (kP_rp _) (.cons h .nil))) (RpD.pairs r)
theorem ev_items {X : Cx} {en : En} {io : List Nat} {e e0 : Expr} {va : VE} (he : ∀ la, E en X e0 la → E en X e (lItems la)) (ha : Ev en X io e0 va) : Ev en X io e (vItems va) := weakL (he _ ha) fun S G Φ ⟨w, F, own, σ, Ψ, g, q, k⟩ => by
  refine ⟨w, F, own, σ, _, g, q, fun r σ1 F1 own1 G1 t q1 x1 g1 r1 => ?_⟩
  split at q1
  · rename_i kvs e1
    obtain ⟨a, us, rfl, h1, r'⟩ := g1.rdV r1 e1
    rcases dicAt_or h1 with h1 | ⟨ob, raw, h1⟩
    all_goals
      simp only [h1]
      intro p hp
      obtain ⟨g4, m4⟩ := g1.fresh (Fresh.new (o := .lst (us.map pairT)) hp)
      exact k _ _ _ _ _ _ q1 x1 g4 ⟨_, ⟨p, _, rfl, rfl, RpD.pairs r'⟩, m4⟩
  · exact q1.elim
end Vl
namespace Dv
open PySem PySem.Spec PyProof.Rows L2
/-! ### xs.index(x), of texts -/
def idxT : RMT := fun t ts G Φ => match t, ts with
  | .ref a, [.str z] => (match G a with
    | some (.lst xs) => ∃ ys : List Str, xs = ys.map T.str ∧ z ∈ ys ∧ Φ (.int (ys.idxOf z : Nat)) G
    | _ => False)
  | _, _ => False
section
variable {X : Cx} {e o : Expr} {la : LE} {l : LA} {apos cpos : Pos} {en : En}
theorem m_index : MtR X "list.index" (lowM X.K en idxT) := by
  refine MtR.weak mt_index fun x xs H Q ⟨t, ts, G, Φ, rt, rs, g, q, kk⟩ => ?_
  unfold idxT at q
  split at q
  · rename_i a z
    split at q
    · rename_i xs e1
      obtain ⟨ys, rfl, hz, q⟩ := q
      cases rt
      cases rs with
      | cons r1 r2 =>
        cases r1
        cases r2
        obtain ⟨vs, h1, r3⟩ := g.obj _ _ e1
        have e3 := r3.strsI
        subst e3
        have hl := List.idxOf_lt_length_of_mem hz
        refine ⟨a, ys.map V.str, .str z, ys.idxOf z, .str z, rfl, rfl, SqL.of h1, rfl, ?_, ?_, ?_, fun m z' hm e => ?_, kk _ _ _ _ q (.int _) g (Step.refl H G)⟩
        · rw [List.all_eq_true]
          intro v hv
          obtain ⟨y, _, rfl⟩ := List.mem_map.mp hv
          rfl
        · rw [List.getElem?_map, List.getElem?_eq_getElem hl, List.getElem_idxOf hl]
          rfl
        · show (z == z) = true
          exact beq_self_eq_true z
        · rw [List.getElem?_map] at e
          obtain ⟨y, h2, rfl⟩ := Option.map_eq_some_iff.mp e
          obtain ⟨h4, h5⟩ := List.getElem?_eq_some_iff.mp h2
          have h3 := List.not_of_lt_findIdx (p := (· == z)) (xs := ys) (i := m) (by exact hm)
          rw [h5] at h3
          show (y == z) = false
          simpa using h3
    · exact q.elim
  · exact q.elim
theorem e_index (ho : E en X o la) (ha : Ea en X [e] l) (hbase : attributeBase o "index" X.env (eval o X.env) = eval o X.env := by rfl) (hfew : Few X e [] cpos := by rfl) (hline : (apos.endLine == cpos.line) = true := by rfl) (hs : starEach [e] X.env = (false, eval e X.env) :: starEach [] X.env := by rfl) :
    E en X (.Call (.Attribute o "index" apos) [e] [] cpos) (lBM "list" idxT la l) := e_bm PySem.F.plainAttrs_list PySem.F.slot_list_index PySem.F.type_list_index m_index ho ha hbase hfew hline hs
end
end Dv
namespace Vl
open PySem PySem.Spec PyProof.Rows L2 Dv
def isLP : Option PV → Prop
  | some (.lst _) => True
  | _ => False
def vIndex (va vb : VE) : VE := fun σ Ψ => va σ fun r σ1 => match fz r with
  | some r => isLP (rd σ1 r) ∧ vb σ1 fun r2 σ2 => (match rd σ2 r, rd σ2 r2 with
    | some (.lst xs), some (.str z) => ∃ ys : List Str, xs = ys.map PV.str ∧ z ∈ ys ∧ Ψ (.v (.fr (.int (ys.idxOf z : Nat)))) σ2
    | _, _ => False)
  | none => False
theorem ev_index {X : Cx} {en : En} {io : List Nat} {e a b : Expr} {va vb : VE} (he : ∀ la lb, E en X a la → E en X b lb → E en X e (lBM "list" idxT la (lCons lb lNil))) (ha : Ev en X io a va) (hb : Ev en X io b vb) : Ev en X io e (vIndex va vb) := weakL (he _ _ ha hb) fun S G Φ ⟨w, F, own, σ, Ψ, g, q, k⟩ => by
  refine ⟨w, F, own, σ, _, g, q, fun r1 σ1 F1 own1 G1 t q1 x1 g1 r1' => ?_⟩
  split at q1
  · rename_i r0 e0
    obtain ⟨F2, g2, x2, ar⟩ := g1.fz r1' e0
    refine ⟨?_, w, F2, own1, σ1, _, g2, q1.2, fun r2 σ2 F3 own3 G3 u q3 x3 g3 r3 => ?_⟩
    · have h := q1.1
      unfold isLP at h
      split at h
      · rename_i xs e
        obtain ⟨a, us, rfl, h1, _⟩ := g2.rdA ar e
        simp only [tyT, h1]
      · exact h.elim
    · split at q3
      · rename_i xs z e1 e2
        obtain ⟨ys, rfl, hz, q3⟩ := q3
        obtain ⟨a, us, rfl, h1, r'⟩ := g3.rdA (ar.sub x3.sub) e1
        have ru := g3.rdV r3 e2
        cases ru
        have e := r'.strs
        subst e
        simp only [idxT, lNil, h1]
        exact ⟨ys, rfl, hz, k _ _ _ _ _ _ q3 ((x1.trans x2).trans x3) g3 ⟨nil0, .int _, .nil⟩⟩
      · exact q3.elim
  · exact q1.elim
end Vl
namespace Dv
open PySem PySem.Spec PyProof.Rows L2
/-! ### data with dicts, as repr reads it -/
mutual
inductive Dq (G : Gp) : T → PyData → Prop
  | non : Dq G .non .none
  | bl (b : Bool) : Dq G (.bl b) (.bool b)
  | int (i : Int) : Dq G (.int i) (.int i)
  | str (x : Str) : Dq G (.str x) (.str x)
  | tup {ts : List T} {ds : List PyData} : DqL G ts ds → Dq G (.tup ts) (.tuple ds)
  | lst {a : Addr} {ts : List T} {ds : List PyData} : G a = some (.lst ts) → DqL G ts ds → Dq G (.ref a) (.list ds)
  | dic {a : Addr} {kvs : List (T × T)} {ds : List (PyData × PyData)} : (G a = some (.dic kvs) ∨ ∃ ob raw, G a = some (.fdic ob raw kvs)) → DqL G (kvs.map (·.1)) (ds.map (·.1)) → DqL G (kvs.map (·.2)) (ds.map (·.2)) → Dq G (.ref a) (.dict ds)
inductive DqL (G : Gp) : List T → List PyData → Prop
  | nil : DqL G [] []
  | cons {t : T} {d : PyData} {ts : List T} {ds : List PyData} : Dq G t d → DqL G ts ds → DqL G (t :: ts) (d :: ds)
end
section
variable {X : Cx} {pins : List (Addr × Obj)} {σ : L2.St} {H : Hp} {s : Shared} {en : En} {G : Gp}
theorem RelD.split {K : Fr0} {H : Hp} : ∀ {vs : List (Key × V)} {ts : List (T × T)}, RelD K H vs ts → RelL K H (vs.map fun q => L2.kV q.1) (ts.map (·.1)) ∧ RelL K H (vs.map (·.2)) (ts.map (·.2))
  | _, _, .nil => ⟨.nil, .nil⟩
  | _, _, .cons (k := k) r rs => ⟨.cons (by cases k <;> constructor) (RelD.split rs).1, .cons r (RelD.split rs).2⟩
theorem kv_split {P : Program} {w : World} : ∀ {vs : List (Key × V)} {ws : List (Key × Value)} {es : List DictEntry}, KV vs ws → Pairs (mixKind P w) es ws → Vals (vs.map fun q => L2.kV q.1) (es.map (·.key)) ∧ Vals (vs.map (·.2)) (es.map (·.val))
  | _, _, _, .nil, .nil => ⟨.nil, .nil⟩
  | _, _, _, .cons h hs, .cons a b r => by
    obtain ⟨q1, q2⟩ := kv_split hs r
    refine ⟨.cons ?_ q1, .cons ?_ q2⟩
    · show RelV (L2.kV _) _
      rw [h.1]
      exact relV_key a
    · show RelV _ (DictEntry.val _)
      rw [b]
      exact h.2
mutual
/-- no list in it -/
def noLst : PyData → Bool
  | .list _ => false
  | .tuple ds => noLstL ds
  | .dict kvs => noLstK kvs
  | _ => true
def noLstL : List PyData → Bool
  | [] => true
  | d :: ds => noLst d && noLstL ds
def noLstK : List (PyData × PyData) → Bool
  | [] => true
  | (k, v) :: r => noLst k && noLst v && noLstK r
end
theorem noLstK_split : ∀ {kvs : List (PyData × PyData)}, noLstK kvs = true → noLstL (kvs.map (·.1)) = true ∧ noLstL (kvs.map (·.2)) = true
  | [], _ => ⟨rfl, rfl⟩
  | (k, v) :: r, h => by
    rw [noLstK, Bool.and_eq_true, Bool.and_eq_true] at h
    obtain ⟨h1, h2⟩ := noLstK_split h.2
    exact ⟨by simp [noLstL, h.1.1, h1], by simp [noLstL, h.1.2, h2]⟩
mutual
theorem Dq.reads (I : Inv X pins σ H s) (g : HRel X.K en H G) : ∀ {t : T} {d : PyData} {v : V} {u : Value}, Dq G t d → Rel X.K H v t → RelV v u → ∃ as, Reads s.heap u d as ∧ (noLst d = true → sysModules ∉ as)
  | _, _, _, _, .non, .non, rfl => ⟨_, .none, fun _ h => by cases h⟩
  | _, _, _, _, .bl b, .bl _, rfl => ⟨_, .bool b, fun _ h => by cases h⟩
  | _, _, _, _, .int i, .int _, ⟨t, rfl⟩ => ⟨_, .int i t, fun _ h => by cases h⟩
  | _, _, _, _, .str x, .str _, ⟨t, rfl⟩ => ⟨_, .str x t, fun _ h => by cases h⟩
  | _, _, _, _, .tup h, .tup hs r, rfl => by
    obtain ⟨its, rv, ⟨o, ho, hc, n, hd⟩, _⟩ := I.tuple hs
    obtain ⟨as, h1, h2⟩ := DqL.reads I g h r rv
    exact ⟨_, .tuple ho hc hd h1, fun z => h2 (by simpa [noLst] using z)⟩
  | _, _, _, _, .lst e h, r0, r1 => by
    cases r0
    obtain rfl := r1
    obtain ⟨vs, h1, r⟩ := g.obj _ _ e
    obtain ⟨its, rv, ⟨o, n, ho, hc, _, hd⟩, _⟩ := I.list (SqL.of h1)
    obtain ⟨as, h2, h3⟩ := DqL.reads I g h r rv
    exact ⟨_, .list ho hc hd h2, fun z => by simp [noLst] at z⟩
  | _, _, _, _, .dic (a := a) (kvs := kvs) e hk hv, r0, r1 => by
    cases r0
    obtain rfl := r1
    obtain ⟨vs, h1, rd⟩ : ∃ vs, Rd H a (.dK vs) ∧ RelD X.K H vs kvs := by
      rcases e with e | ⟨ob, raw, e⟩
      · obtain ⟨vs, h1, rd⟩ := g.obj _ _ e
        exact ⟨vs, .inl h1, rd⟩
      · obtain ⟨h1, rd⟩ := g.obj _ _ e
        exact ⟨raw, .inr ⟨_, h1⟩, rd⟩
    obtain ⟨_, hs, ws, kv, o, es, ep, ho, ex, hd, _, pr, _⟩ := dk_rd I.hok h1
    obtain ⟨rk, rv⟩ := rd.split
    obtain ⟨uk, uv⟩ := kv_split kv pr
    obtain ⟨as, h2, h3⟩ := DqL.reads I g hk rk uk
    obtain ⟨bs, h4, h5⟩ := DqL.reads I g hv rv uv
    refine ⟨_, .dict ho ex.1 hd h2 h4, fun z hb => ?_⟩
    obtain ⟨z1, z2⟩ := noLstK_split (by simpa [noLst] using z)
    rcases List.mem_append.mp hb with y | y
    · rcases List.mem_cons.mp y with y | y
      · exact beq_eq_false_iff_ne.mp hs y.symm
      · exact h3 z1 y
    · exact h5 z2 y
theorem DqL.reads (I : Inv X pins σ H s) (g : HRel X.K en H G) : ∀ {ts : List T} {ds : List PyData} {vs : List V} {us : List Value}, DqL G ts ds → RelL X.K H vs ts → Vals vs us → ∃ as, ReadsAll s.heap us ds as ∧ (noLstL ds = true → sysModules ∉ as)
  | _, _, _, _, .nil, .nil, .nil => ⟨_, .nil, fun _ h => by cases h⟩
  | _, _, _, _, .cons h hs, .cons r rs, .cons u us => by
    obtain ⟨as, h1, h2⟩ := Dq.reads I g h r u
    obtain ⟨bs, h3, h4⟩ := DqL.reads I g hs rs us
    refine ⟨_, .cons h1 h3, fun z ha => ?_⟩
    rw [noLstL, Bool.and_eq_true] at z
    exact (List.mem_append.mp ha).elim (h2 z.1) (h4 z.2)
end
/-- the items of a list, each without lists or without dicts -/
theorem items_repr (I : Inv X pins σ H s) (g : HRel X.K en H G) : ∀ {ts : List T} {ds : List PyData} {vs : List V} {us : List Value}, DqL G ts ds → RelL X.K H vs ts → Vals vs us → (∀ d ∈ ds, d.hasDict = true → noLst d = true) → PyData.showableAll ds = true → (∀ t ∈ PyData.shownAll ds, t.length ≤ sizeLine) →
    ∃ as bs, ReadsAll s.heap us ds as ∧ ReadAtMost s.heap (PyData.depthAll ds) bs ∧ ReprAllK X.prog X.w bs s.heap (PyData.depthAll ds) us (PyData.shownAll ds)
  | _, _, _, _, .nil, .nil, .nil, _, _, _ => ⟨[], [], .nil, (fun _ h => nomatch h), by simp only [PyData.shownAll]; exact .nil⟩
  | _, _, _, _, .cons (d := d) (ds := ds) h hs, .cons r rs, .cons u us, hn, sh, hz => by
    rw [PyData.showableAll, Bool.and_eq_true] at sh
    have hz1 : d.shown.length ≤ sizeLine := hz _ (by simp [PyData.shownAll])
    have hz2 : ∀ t ∈ PyData.shownAll ds, t.length ≤ sizeLine := fun t ht => hz t (by simp only [PyData.shownAll]; exact List.mem_cons_of_mem _ ht)
    obtain ⟨as, q1, q2⟩ := Dq.reads I g h r u
    obtain ⟨b1, k1, k2⟩ := ReprK.of_reads (prog := X.prog) (w := X.w) q1 sh.1 (fun z => q2 (hn d List.mem_cons_self z)) hz1
    obtain ⟨as2, b2, k3, k4, k5⟩ := items_repr I g hs rs us (fun d hd => hn d (List.mem_cons_of_mem _ hd)) sh.2 hz2
    refine ⟨_, b1 ++ b2, .cons q1 k3, (k1.mono ?_).append (k4.mono ?_), ?_⟩
    · simp only [PyData.depthAll]; exact Nat.le_max_left _ _
    · simp only [PyData.depthAll]; exact Nat.le_max_right _ _
    · simp only [PyData.depthAll, PyData.shownAll]
      exact .cons ((k2.more fun b hb => List.mem_append_left _ hb).level_le (Nat.le_max_left _ _)) (k5.more_le (fun b hb => List.mem_append_right _ hb) (Nat.le_max_right _ _))
/-- repr of a list whose items are without lists or without dicts -/
def reprQT : RLT := fun ts G Φ => ∃ a us ds, ts = [.ref a] ∧ G a = some (.lst us) ∧ us ≠ [] ∧ DqL G us ds ∧ (∀ d ∈ ds, d.hasDict = true → noLst d = true) ∧ PyData.showableAll ds = true ∧ (PyData.list ds).depth ≤ 64 ∧ (PyData.list ds).shown.length ≤ sizeLine ∧ Φ (.str (PyData.list ds).shown) G
theorem b_reprQ (hgd : X.A.guards = some []) (hu : X.A.units + 66 < cLine) : CallR X (.builtin "repr") (lowC X.K en reprQT) := by
  intro pins s σ H xs us Q I r h
  obtain ⟨ts, G, Φ, rl, g, hq0, kk⟩ := h
  obtain ⟨a, is, ds, rfl, ha, hne, hq, hn, sh, hd, hz, q⟩ := hq0
  cases rl with
  | cons h1 h2 =>
    cases h1
    cases h2
    rw [Vals.ref1 r]
    obtain ⟨vs, hl, rs⟩ := g.obj _ _ ha
    obtain ⟨its, rv, ⟨o, n, ho, hc, _, hdt⟩, _⟩ := I.list (SqL.of hl)
    have hz' : (listText (PyData.shownAll ds)).length ≤ sizeLine := by simpa only [PyData.shown] using hz
    obtain ⟨as, bs, k1, k2, k3⟩ := items_repr I g hq rs rv hn sh fun t ht => Nat.le_trans (listText_mem_le ht) hz'
    have rd : Reads s.heap (.ref a) (.list ds) _ := .list ho hc hdt k1
    have hna : a ∉ bs := not_mem_of_deeper rd (by simp only [PyData.depth]; omega) k2
    have hnil : its ≠ [] := fun z => by
      subst z
      cases rv
      cases rs
      exact hne rfl
    match its, hnil, k3, hdt with
    | x :: l, _, k3, hdt =>
      simp only [PyData.depth] at hd
      refine call_repr_slot (by omega) ⟨o, ho, hc⟩ PySem.F.slot_list_repr.toG ?_
      refine call_list_reprK ho hc hdt hna (by simpa using k3.length_eq) (fun i y e => k3.item i y (by simpa using e)) hgd (fun b _ => Clear.nil b) (by show X.A.units + 1 + _ < cLine; omega) (fun _ _ e => e) (fun h' u tk hk => ?_) hz'
      refine ⟨_, _, rfl, .str (PyData.list ds).shown, H, I.kept hk, ⟨u, ?_⟩, kk _ _ _ _ q (.str _) g (Step.refl H G)⟩
      simp only [PyData.shown]
end
section
variable {X : Cx} {e : Expr} {pos p : Pos} {en : En} {l : LA}
theorem b_reprQE (hm : X.mg "repr" = none) (hgd : X.A.guards = some []) (hu : X.A.units + 66 < cLine) (ha : Ea en X [e] l) (hg : Gl X "repr" := by rfl) (he : starEach [e] X.env = (false, eval e X.env) :: starEach [] X.env := by rfl) : E en X (.Call (.Name "repr" p) [e] [] pos) (lCB reprQT l) :=
  e_cb (b_reprQ hgd hu) hg hm rfl ha (he := he)
end
end Dv
namespace Vl
open PySem PySem.Spec PyProof.Rows L2 Dv
/-! ### over values -/
mutual
/-- the data of a value, dicts and all -/
def pq : PV → PyData
  | .non => .none
  | .bl b => .bool b
  | .int i => .int i
  | .str x => .str x
  | .tup ts => .tuple (pqL ts)
  | .lst ts => .list (pqL ts)
  | .dic kvs => .dict (pqK kvs)
  | _ => .none
def pqL : List PV → List PyData
  | [] => []
  | t :: ts => pq t :: pqL ts
def pqK : List (Key × PV) → List (PyData × PyData)
  | [] => []
  | (k, v) :: r => ((match k with | .inl i => .int i | .inr x => .str x), pq v) :: pqK r
end
mutual
/-- data all the way -/
def dtP : PV → Bool
  | .ty _ => false
  | .ins _ _ => false
  | .tup ts => dtL ts
  | .lst ts => dtL ts
  | .dic kvs => dtK kvs
  | _ => true
def dtL : List PV → Bool
  | [] => true
  | t :: ts => dtP t && dtL ts
def dtK : List (Key × PV) → Bool
  | [] => true
  | (_, v) :: r => dtP v && dtK r
end
mutual
theorem pq_dq {G : Gp} : ∀ {p : PV} {t : T}, dtP p = true → Rp G t p → Dq G t (pq p)
  | .non, _, _, .non => .non
  | .bl b, _, _, .bl _ => .bl b
  | .int i, _, _, .int _ => .int i
  | .str x, _, _, .str _ => .str x
  | .tup ps, _, h, .tup r => .tup (pqL_dq (by simpa [dtP] using h) r)
  | .lst ps, _, h, .lst hg r => .lst hg (pqL_dq (by simpa [dtP] using h) r)
  | .dic kvs, _, h, .dic hd rd => by
    obtain ⟨k1, k2⟩ := pqK_dq (by simpa [dtP] using h) rd
    exact .dic (dicAt_or hd) k1 k2
theorem pqL_dq {G : Gp} : ∀ {ps : List PV} {ts : List T}, dtL ps = true → RpL G ts ps → DqL G ts (pqL ps)
  | [], _, _, .nil => .nil
  | p :: ps, _, h, .cons r rs => by
    have h' : dtP p = true ∧ dtL ps = true := by simpa [dtL] using h
    exact .cons (pq_dq h'.1 r) (pqL_dq h'.2 rs)
theorem pqK_dq {G : Gp} : ∀ {kvs : List (Key × PV)} {ts : List (T × T)}, dtK kvs = true → RpD G ts kvs → DqL G (ts.map (·.1)) ((pqK kvs).map (·.1)) ∧ DqL G (ts.map (·.2)) ((pqK kvs).map (·.2))
  | [], _, _, .nil => ⟨.nil, .nil⟩
  | (k, v) :: kvs, _, h, .cons r rs => by
    have h' : dtP v = true ∧ dtK kvs = true := by simpa [dtK] using h
    obtain ⟨k1, k2⟩ := pqK_dq h'.2 rs
    refine ⟨.cons ?_ k1, .cons (pq_dq h'.1 r) k2⟩
    cases k with
    | inl i => exact .int i
    | inr x => exact .str x
end
/-- a list that repr tells of, its items without lists or without dicts -/
structure QOk (ps : List PV) : Prop where
  ne : ps ≠ []
  dt : dtL ps = true
  nl : ∀ d ∈ pqL ps, d.hasDict = true → noLst d = true
  sh : PyData.showableAll (pqL ps) = true
  dp : (PyData.list (pqL ps)).depth ≤ 64
  sz : (PyData.list (pqL ps)).shown.length ≤ sizeLine
def reprQP : List PV → (Cell → Prop) → Prop
  | [.lst ps], k => QOk ps ∧ k (.fr (.str (PyData.list (pqL ps)).shown))
  | _, _ => False
theorem cv_reprQ : CbV reprQT reprQP := fun F G ts ps Ψ Φ s r hh k => by
  match ps, hh with
  | [.lst xs], hh =>
    obtain ⟨hq, hh⟩ := hh
    obtain ⟨t, rfl, a, us, rfl, h1, r'⟩ := r.one
    have rG := r'.sub s
    refine ⟨a, us, pqL xs, rfl, h1, fun z => ?_, pqL_dq hq.dt rG, hq.nl, hq.sh, hq.dp, hq.sz, k _ _ _ nil0 hh .no (.str _)⟩
    subst z
    cases r'
    exact hq.ne rfl
end Vl
namespace Vl
open PySem PySem.Spec PyProof.Rows L2 Dv
/-! ### a def known over values, called at the T level with what stays as it is -/
def frS (ps : List PV) : SV := fun i => (ps[i]?).map Cell.fr
theorem frozen_call {spv : SpV} {n : Nat} {ts : List T} {ps : List PV} {G : Gp} {Φ : QT} {ΦE : XK2} (hl : ts.length = n) (r : RpL G ts ps) (h : spv (frS ps) (fun c _ => ∀ t F' H G', Sub G F' → Sub F' G' → CellR F' H t c → Φ t G') noXV) : lowSpV n [] spv ts G Φ ΦE := by
  refine ⟨hl, nil0, G, fun _ => nil0, frS ps, _, noXV, ⟨?_, (fun i hi => by cases hi), Sub.refl G, (fun a o e => by cases e), (fun _ _ => rfl), (fun i a o e => by cases e), (fun i a e => absurd rfl e), (fun i j a _ e => absurd rfl e), fun i c e => ?_⟩, h, ⟨fun c σ' F' own' H t G' q x g cr _ => q t F' H G' x.sub g.sub cr, fun C fs fT σ' F' own' G' z _ _ _ => z.elim⟩⟩
  · show (ts.map some).length = n
    rw [List.length_map]; exact hl
  · unfold frS at e
    obtain ⟨p, e1, rfl⟩ := Option.map_eq_some_iff.mp e
    obtain ⟨t, e2, rp⟩ := r.get e1
    exact ⟨t, by rw [List.getElem?_map, e2]; rfl, rp⟩
end Vl
namespace Vl
open PySem PySem.Spec PyProof.Rows L2 Dv
/-! ### data with dicts that repr tells of without trouble -/
def qsKey : Key → Bool
  | .inl i => decide (-999999999999 ≤ i ∧ i ≤ 999999999999)
  | .inr x => PyData.strOk x
mutual
def qsP : PV → Bool
  | .non => true
  | .bl _ => true
  | .str x => PyData.strOk x
  | .int i => decide (-999999999999 ≤ i ∧ i ≤ 999999999999)
  | .tup ts => qsL ts
  | .lst ts => qsL ts
  | .dic kvs => qsK kvs
  | _ => false
def qsL : List PV → Bool
  | [] => true
  | t :: ts => qsP t && qsL ts
def qsK : List (Key × PV) → Bool
  | [] => true
  | (k, v) :: r => qsKey k && qsP v && qsK r
end
def qwKey : Key → Nat
  | .inl _ => 41
  | .inr x => x.length
mutual
def qwP : PV → Nat
  | .str x => x.length
  | .int _ => 41
  | .tup ts => qwL ts
  | .lst ts => qwL ts
  | .dic kvs => qwK kvs
  | _ => 0
def qwL : List PV → Nat
  | [] => 0
  | t :: ts => qwP t + 1 + qwL ts
def qwK : List (Key × PV) → Nat
  | [] => 0
  | (k, v) :: r => qwKey k + qwP v + 2 + qwK r
end
mutual
def qdP : PV → Nat
  | .tup ts => qdL ts + 1
  | .lst ts => qdL ts + 1
  | .dic kvs => qdK kvs + 1
  | _ => 0
def qdL : List PV → Nat
  | [] => 0
  | t :: ts => max (qdP t) (qdL ts)
def qdK : List (Key × PV) → Nat
  | [] => 0
  | (_, v) :: r => max (qdP v) (qdK r)
end
theorem int_q {i : Int} (h : -999999999999 ≤ i ∧ i ≤ 999999999999) : (PyData.int i).showable = true ∧ (PyData.int i).leavesShort 13 = true ∧ (PyData.int i).weight ≤ 41 := by
  have hl := log_lt h
  refine ⟨?_, ?_, ?_⟩
  · show decide (i.natAbs.log2 < 1920) = true
    exact decide_eq_true (by omega)
  · have := intsShort_of_noneOrInC (lo := -999999999999) (hi := 999999999999) (by decide) (by decide) (.int i) (by simp [noneOrInC]; omega)
    simpa only [PyData.leavesShort, PyData.intsShort] using this
  · show (if i == 0 then 0 else i.natAbs.log2 + 1) ≤ 41
    split
    · exact Nat.zero_le _
    · omega
theorem str_q {x : Str} (h : PyData.strOk x = true) : (PyData.str x).showable = true ∧ (PyData.str x).leavesShort 13 = true ∧ (PyData.str x).weight ≤ x.length := by
  refine ⟨rfl, ?_, Nat.le_refl _⟩
  exact PyData.leavesShort_of_canLay0 13 (.str x) (by simpa [PyData.canLay0] using h) rfl
mutual
theorem qs_ok : ∀ {p : PV}, qsP p = true → dtP p = true ∧ (pq p).showable = true ∧ (pq p).leavesShort 13 = true ∧ (pq p).weight ≤ qwP p ∧ (pq p).depth ≤ qdP p
  | .non, _ => ⟨rfl, rfl, rfl, Nat.le_refl _, Nat.le_refl _⟩
  | .bl _, _ => ⟨rfl, rfl, rfl, Nat.le_refl _, Nat.le_refl _⟩
  | .str x, h => by
    obtain ⟨h1, h2, h3⟩ := str_q (x := x) (by simpa [qsP] using h)
    exact ⟨rfl, h1, h2, h3, Nat.le_refl _⟩
  | .int i, h => by
    obtain ⟨h1, h2, h3⟩ := int_q (i := i) (of_decide_eq_true h)
    exact ⟨rfl, h1, h2, h3, Nat.le_refl _⟩
  | .tup ts, h => by
    obtain ⟨h0, h1, h2, h3, h4⟩ := qsL_ok (by simpa [qsP] using h)
    exact ⟨by simpa [dtP] using h0, by simpa [pq, PyData.showable] using h1, by simpa [pq, PyData.leavesShort] using h2, by simpa [pq, PyData.weight, qwP] using h3, by simpa [pq, PyData.depth, qdP] using h4⟩
  | .lst ts, h => by
    obtain ⟨h0, h1, h2, h3, h4⟩ := qsL_ok (by simpa [qsP] using h)
    exact ⟨by simpa [dtP] using h0, by simpa [pq, PyData.showable] using h1, by simpa [pq, PyData.leavesShort] using h2, by simpa [pq, PyData.weight, qwP] using h3, by simpa [pq, PyData.depth, qdP] using h4⟩
  | .dic kvs, h => by
    obtain ⟨h0, h1, h2, h3, h4⟩ := qsK_ok (by simpa [qsP] using h)
    exact ⟨by simpa [dtP] using h0, by simpa [pq, PyData.showable] using h1, by simpa [pq, PyData.leavesShort] using h2, by simpa [pq, PyData.weight, qwP] using h3, by simpa [pq, PyData.depth, qdP] using h4⟩
  | .ty _, h => by simp [qsP] at h
  | .ins _ _, h => by simp [qsP] at h
theorem qsL_ok : ∀ {ps : List PV}, qsL ps = true → dtL ps = true ∧ PyData.showableAll (pqL ps) = true ∧ PyData.leavesShortAll 13 (pqL ps) = true ∧ PyData.weightAll (pqL ps) ≤ qwL ps ∧ PyData.depthAll (pqL ps) ≤ qdL ps
  | [], _ => ⟨rfl, rfl, rfl, Nat.le_refl _, Nat.le_refl _⟩
  | t :: ts, h => by
    rw [qsL, Bool.and_eq_true] at h
    obtain ⟨a0, a1, a2, a3, a4⟩ := qs_ok h.1
    obtain ⟨b0, b1, b2, b3, b4⟩ := qsL_ok h.2
    refine ⟨by simp [dtL, a0, b0], by simp [pqL, PyData.showableAll, a1, b1], by simp [pqL, PyData.leavesShortAll, a2, b2], ?_, ?_⟩
    · simp only [pqL, PyData.weightAll, qwL]
      omega
    · simp only [pqL, PyData.depthAll, qdL]
      omega
theorem qsK_ok : ∀ {ps : List (Key × PV)}, qsK ps = true → dtK ps = true ∧ PyData.showableKv (pqK ps) = true ∧ PyData.leavesShortKv 13 (pqK ps) = true ∧ PyData.weightKv (pqK ps) ≤ qwK ps ∧ PyData.depthKv (pqK ps) ≤ qdK ps
  | [], _ => ⟨rfl, rfl, rfl, Nat.le_refl _, Nat.le_refl _⟩
  | (k, v) :: ts, h => by
    rw [qsK, Bool.and_eq_true, Bool.and_eq_true] at h
    obtain ⟨a0, a1, a2, a3, a4⟩ := qs_ok h.1.2
    obtain ⟨b0, b1, b2, b3, b4⟩ := qsK_ok h.2
    cases k with
    | inl i =>
      obtain ⟨c1, c2, c3⟩ := int_q (i := i) (of_decide_eq_true h.1.1)
      refine ⟨by simp [dtK, a0, b0], by simp only [pqK, PyData.showableKv, c1, a1, b1, Bool.and_self], by simp only [pqK, PyData.leavesShortKv, c2, a2, b2, Bool.and_self], ?_, ?_⟩
      · simp only [pqK, PyData.weightKv, qwK, qwKey]
        omega
      · have : PyData.depth (.int i) = 0 := rfl
        simp only [pqK, PyData.depthKv, qdK]
        omega
    | inr x =>
      obtain ⟨c1, c2, c3⟩ := str_q (x := x) h.1.1
      refine ⟨by simp [dtK, a0, b0], by simp only [pqK, PyData.showableKv, c1, a1, b1, Bool.and_self], by simp only [pqK, PyData.leavesShortKv, c2, a2, b2, Bool.and_self], ?_, ?_⟩
      · simp only [pqK, PyData.weightKv, qwK, qwKey]
        omega
      · have : PyData.depth (.str x) = 0 := rfl
        simp only [pqK, PyData.depthKv, qdK]
        omega
end
mutual
def ndP : PV → Bool
  | .tup ts => ndL ts
  | .lst ts => ndL ts
  | .dic _ => false
  | _ => true
def ndL : List PV → Bool
  | [] => true
  | t :: ts => ndP t && ndL ts
end
mutual
def nlP : PV → Bool
  | .tup ts => nlL ts
  | .lst _ => false
  | .dic kvs => nlK kvs
  | _ => true
def nlL : List PV → Bool
  | [] => true
  | t :: ts => nlP t && nlL ts
def nlK : List (Key × PV) → Bool
  | [] => true
  | (_, v) :: r => nlP v && nlK r
end
mutual
theorem nd_ok : ∀ {p : PV}, ndP p = true → (pq p).hasDict = false
  | .non, _ => rfl
  | .bl _, _ => rfl
  | .str _, _ => rfl
  | .int _, _ => rfl
  | .tup ts, h => by simpa [pq, PyData.hasDict] using ndL_ok (ps := ts) (by simpa [ndP] using h)
  | .lst ts, h => by simpa [pq, PyData.hasDict] using ndL_ok (ps := ts) (by simpa [ndP] using h)
  | .dic _, h => by simp [ndP] at h
  | .ty _, _ => rfl
  | .ins _ _, _ => rfl
theorem ndL_ok : ∀ {ps : List PV}, ndL ps = true → PyData.hasDictAll (pqL ps) = false
  | [], _ => rfl
  | t :: ts, h => by
    rw [ndL, Bool.and_eq_true] at h
    simp [pqL, PyData.hasDictAll, nd_ok h.1, ndL_ok h.2]
end
mutual
theorem nl_ok : ∀ {p : PV}, nlP p = true → noLst (pq p) = true
  | .non, _ => rfl
  | .bl _, _ => rfl
  | .str _, _ => rfl
  | .int _, _ => rfl
  | .tup ts, h => by simpa [pq, noLst] using nlL_ok (ps := ts) (by simpa [nlP] using h)
  | .lst ts, h => by simp [nlP] at h
  | .dic kvs, h => by simpa [pq, noLst] using nlK_ok (ps := kvs) (by simpa [nlP] using h)
  | .ty _, _ => rfl
  | .ins _ _, _ => rfl
theorem nlL_ok : ∀ {ps : List PV}, nlL ps = true → noLstL (pqL ps) = true
  | [], _ => rfl
  | t :: ts, h => by
    rw [nlL, Bool.and_eq_true] at h
    simp [pqL, noLstL, nl_ok h.1, nlL_ok h.2]
theorem nlK_ok : ∀ {ps : List (Key × PV)}, nlK ps = true → noLstK (pqK ps) = true
  | [], _ => rfl
  | (k, v) :: ts, h => by
    rw [nlK, Bool.and_eq_true] at h
    cases k <;> simp [pqK, noLstK, noLst, nl_ok h.1, nlK_ok h.2]
end
theorem mem_pqL : ∀ {ps : List PV} {d : PyData}, d ∈ pqL ps → ∃ p ∈ ps, d = pq p
  | [], _, h => by cases h
  | p :: ps, d, h => by
    rcases List.mem_cons.mp h with e | e
    · exact ⟨p, List.mem_cons_self, e⟩
    · obtain ⟨q, hq, e⟩ := mem_pqL e
      exact ⟨q, List.mem_cons_of_mem _ hq, e⟩
/-- a list that repr tells of: its data is well, each item is without lists or without dicts -/
theorem qok {ps : List PV} (ne : ps ≠ []) (hs : qsL ps = true) (hn : ∀ p ∈ ps, ndP p = true ∨ nlP p = true) (hd : qdL ps < 64) (hw : qwL ps ≤ 2 ^ 20) : QOk ps := by
  obtain ⟨a0, a1, a2, a3, a4⟩ := qsL_ok hs
  refine ⟨ne, a0, fun d hd' hh => ?_, a1, ?_, ?_⟩
  · obtain ⟨p, hp, rfl⟩ := mem_pqL hd'
    rcases hn p hp with z | z
    · rw [nd_ok z] at hh; cases hh
    · exact nl_ok z
  · simp only [PyData.depth]
    omega
  · exact PyData.shown_fits (B := 13) (by decide) (by decide) (by simpa [PyData.leavesShort] using a2) (by simp only [PyData.weight]; omega)
theorem qsL_iff : ∀ {ps : List PV}, qsL ps = true ↔ ∀ p ∈ ps, qsP p = true
  | [] => by simp [qsL]
  | t :: ts => by rw [qsL, Bool.and_eq_true, qsL_iff]; simp
theorem qsK_iff : ∀ {ps : List (Key × PV)}, qsK ps = true ↔ ∀ kv ∈ ps, qsKey kv.1 = true ∧ qsP kv.2 = true
  | [] => by simp [qsK]
  | (k, v) :: ts => by rw [qsK, Bool.and_eq_true, Bool.and_eq_true, qsK_iff]; simp
theorem ndL_iff : ∀ {ps : List PV}, ndL ps = true ↔ ∀ p ∈ ps, ndP p = true
  | [] => by simp [ndL]
  | t :: ts => by rw [ndL, Bool.and_eq_true, ndL_iff]; simp
theorem nlK_iff : ∀ {ps : List (Key × PV)}, nlK ps = true ↔ ∀ kv ∈ ps, nlP kv.2 = true
  | [] => by simp [nlK]
  | (k, v) :: ts => by rw [nlK, Bool.and_eq_true, nlK_iff]; simp
theorem qwL_le {B : Nat} : ∀ {ts : List PV}, (∀ t ∈ ts, qwP t ≤ B) → qwL ts ≤ ts.length * (B + 1)
  | [], _ => Nat.zero_le _
  | t :: ts, h => by
    have h1 := h t List.mem_cons_self
    have h2 := qwL_le fun t ht => h t (List.mem_cons_of_mem _ ht)
    rw [qwL, List.length_cons, Nat.succ_mul]
    omega
theorem qwK_le {B : Nat} : ∀ {ts : List (Key × PV)}, (∀ t ∈ ts, qwKey t.1 + qwP t.2 ≤ B) → qwK ts ≤ ts.length * (B + 2)
  | [], _ => Nat.zero_le _
  | (k, v) :: ts, h => by
    have h1 := h (k, v) List.mem_cons_self
    have h2 := qwK_le fun t ht => h t (List.mem_cons_of_mem _ ht)
    rw [qwK, List.length_cons, Nat.succ_mul]
    simp only at h1
    omega
theorem qdL_le {n : Nat} : ∀ {ps : List PV}, (∀ p ∈ ps, qdP p ≤ n) → qdL ps ≤ n
  | [], _ => Nat.zero_le _
  | t :: ts, h => by
    rw [qdL]
    have h1 := h t List.mem_cons_self
    have h2 := qdL_le fun t ht => h t (List.mem_cons_of_mem _ ht)
    omega
theorem qdK_le {n : Nat} : ∀ {ps : List (Key × PV)}, (∀ kv ∈ ps, qdP kv.2 ≤ n) → qdK ps ≤ n
  | [], _ => Nat.zero_le _
  | (k, v) :: ts, h => by
    rw [qdK]
    have h1 := h (k, v) List.mem_cons_self
    have h2 := qdK_le fun t ht => h t (List.mem_cons_of_mem _ ht)
    simp only at h1
    omega
end Vl
namespace K17
open PySem PySem.Spec PyProof.Rows L2 Dv Vl
abbrev pw : Program := PySem.Challenge.pw_everymiss_k17_elements_told
def top (i : Nat) : Stmt := pw.main.body.getD i (.Pass ⟨0, 0, 0, 0⟩)
/-- what stands behind the top -/
structure Env (K : Fr0) (mg : Str → Option Value) : Prop where
  b_len : mg "len" = none
  b_abs : mg "abs" = none
  b_int : mg "int" = none
  b_list : mg "list" = none
  b_tuple : mg "tuple" = none
  b_sorted : mg "sorted" = none
  b_dict : mg "dict" = none
  b_isinstance : mg "isinstance" = none
  b_range : mg "range" = none
  b_zip : mg "zip" = none
  b_str : mg "str" = none
  b_bool : mg "bool" = none
  b_set : mg "set" = none
  b_repr : mg "repr" = none
  b_max : mg "max" = none
  b_min : mg "min" = none
  g_LETTERS : GStr mg "LETTERS" "abcdefghijklmnopqrstuvwxyz"
  g_MOST_KEPT : GInt mg "MOST_KEPT" 12
  g_MOST_SETS : GInt mg "MOST_SETS" 8
  g_NOTHING : GTup K mg "NOTHING" (.tup [(.bl false), (.tup [])])
  g_FRESH : GTup K mg "FRESH" (.tup [(.bl true), (.tup [])])
  d_is_integer : Df K mg "is_integer" (top 7) ["value"]
  d_is_name : Df K mg "is_name" (top 8) ["value"]
  d_is_set : Df K mg "is_set" (top 12) ["value"]
  d_is_layout : Df K mg "is_layout" (top 13) ["value"]
  d_need_layout : Df K mg "need_layout" (top 14) ["value"]
  d_need_block : Df K mg "need_block" (top 15) ["layout", "value"]
  d_distances_of : Df K mg "distances_of" (top 16) ["blocks", "layout"]
  d_is_element : Df K mg "is_element" (top 20) ["value"]
  d_need_element : Df K mg "need_element" (top 21) ["value"]
  d_times : Df K mg "times" (top 22) ["one", "other"]
  d_distance_at : Df K mg "distance_at" (top 23) ["one"]
  d_distance_of : Df K mg "distance_of" (top 24) ["element"]
  d_touch_element : Df K mg "touch_element" (top 25) ["layout", "focus", "block"]
  d_element_of : Df K mg "element_of" (top 26) ["blocks", "layout", "focus"]
  d__law_begin : Df K mg "_law_begin" (top 28) ["_law_script"]
  d__law_take : Df K mg "_law_take" (top 29) ["_law_draw", "_law_size"]
  d__law_pick : Df K mg "_law_pick" (top 30) ["_law_draw", "_law_some"]
  d__law_shuffled : Df K mg "_law_shuffled" (top 31) ["_law_draw", "_law_some"]
  d__law_blocks : Df K mg "_law_blocks" (top 32) ["_law_draw"]
  d__law_layout : Df K mg "_law_layout" (top 33) ["_law_draw", "_law_menu", "_law_sets"]
  d__law_distance : Df K mg "_law_distance" (top 34) ["_law_plan", "_law_seen", "_law_block"]
  d__law_due : Df K mg "_law_due" (top 35) ["_law_plan", "_law_seen", "_law_eye"]
  d__law_right : Df K mg "_law_right" (top 36) ["_law_plan", "_law_seen", "_law_eye"]
  d_law : Df K mg "law" (top 37) ["_law_script"]
variable {P : Program} {w : World} {K : Fr0} {mg : Str → Option Value} {base : Heap}
theorem sc__law_take : FnScope ["_law_draw", "_law_size", "_law_found", "_law_turn", "_law_item", "_law_mixed"] ["_law_draw", "_law_size"] (defScope (top 29)) := ⟨rfl, rfl, rfl, by decide +kernel, rfl, by decide +kernel, by decide +kernel⟩
theorem kn0__law_take (V : Env K mg) : Kn P w K mg base 1 "_law_take" spTake0 [] := by
  refine kn_of V.d__law_take sc__law_take (by rintro ts G Φ ΦE ⟨d, sz, n, G0, lg, it, l, t, ls, is, rfl, _⟩; rfl) fun f cdv A outer s H E ts G Φ ΦE hr ho hsp => ⟨_, (es_cons (s_if (et_w (ew_and (et_cmp (o_eq hr.u64) (e_ix hr.u1 (e_var 0) e_str (fun _ _ => rfl)) e_int) (ew_and1 (et_cmp (o_ne hr.u64) (e_ix hr.u1 (e_var 0) e_str (fun _ _ => rfl)) (e_lst ea_nil))))) (es_one (s_store hr.u1 (e_var 0) e_str (e_pop (e_ix hr.u1 (e_var 0) e_str (fun _ _ => rfl)) (ea_cons e_int ea_nil)))) es_nil) (es_cons (s_if (et_cmp o_gt (e_ix hr.u1 (e_var 0) e_str (fun _ _ => rfl)) e_int) (es_cons (s_set (j := 2) sc__law_take.nd rfl (by first | exact .inl rfl | exact .inr rfl) (e_bin o_mod (b_intE V.b_int (ea_cons (e_ix hr.u1 (e_var 0) e_str (fun _ _ => rfl)) ea_nil)) (e_var 1))) (es_cons (s_store hr.u1 (e_var 0) e_str (e_bin o_fdiv (e_ix hr.u1 (e_var 0) e_str (fun _ _ => rfl)) (e_var 1))) (es_one (s_ret (e_var 2))))) es_nil) (es_cons (s_set (j := 3) sc__law_take.nd rfl (by first | exact .inl rfl | exact .inr rfl) (e_bin o_add (e_ix hr.u1 (e_var 0) e_str (fun _ _ => rfl)) e_int)) (es_cons (s_store hr.u1 (e_var 0) e_str (e_var 3)) (es_cons (s_set (j := 4) sc__law_take.nd rfl (by first | exact .inl rfl | exact .inr rfl) e_int) (es_cons (s_if (et_cmp (o_ne hr.u64) (e_ix hr.u1 (e_var 0) e_str (fun _ _ => rfl)) (e_lst ea_nil)) (es_one (s_set (j := 4) sc__law_take.nd rfl (by first | exact .inl rfl | exact .inr rfl) (e_ix hr.u1 (e_ix hr.u1 (e_var 0) e_str (fun _ _ => rfl)) (e_bin o_mod (b_intE V.b_int (ea_cons (e_var 3) ea_nil)) (b_lenE V.b_len (ea_cons (e_ix hr.u1 (e_var 0) e_str (fun _ _ => rfl)) ea_nil))) (fun _ _ => rfl)))) es_nil) (es_cons (s_set (j := 5) sc__law_take.nd rfl (by first | exact .inl rfl | exact .inr rfl) (e_bin o_mod (b_intE V.b_int (ea_cons (e_bin o_pow (e_bin o_add (e_bin o_add (e_bin o_mod (b_intE V.b_int (ea_cons (e_var 4) ea_nil)) e_int) (e_bin o_mul e_int (e_var 3))) e_int) e_int) ea_nil)) e_int)) (es_one (s_ret (e_bin o_mod (e_bin o_fdiv (e_bin o_mod (b_intE V.b_int (ea_cons (e_bin o_pow (e_bin o_add (e_var 5) (e_bin o_mul e_int (e_var 3))) e_int) ea_nil)) e_int) e_int) (e_var 1))))))))))), ?_⟩
  obtain ⟨d, sz, n, G0, lg, it, l, t, ls, is, rfl, rfl, o, hsz, hn, q⟩ := hsp
  show lSeq _ _ _ [some (.ref d), some (.int sz), none, none, none, none] _
  have nd := o.n1
  have hmd : mostDraws = 10 ^ 9 := rfl
  have hints : ∀ xs : List Int, PlaL (xs.map T.int) := PlaL.ints
  refine sq (M := fun S' G' => S' = [some (.ref d), some (.int sz), none, none, none, none] ∧ ∃ l ls, Opn d lg it l t ls is n ∧ G' = opn G0 d lg it l t ls is) ?rest ?first
  case first =>
    intro R hR
    have fin : ∀ G', Sub (opn G0 d lg it l t ls is) G' → R [some (.ref d), some (.int sz), none, none, none, none] G' := fun G' sb => hR _ _ _ sb ⟨rfl, l, ls, o, rfl⟩
    simp only [lIfS, lAnd, lOr, lNot, lB, lOp, lVar, lC, lCons, lNil, lTup, lLst, lUn, lCB, lAsg, gN, lSet, lRet, lRetN, lDrop, lNext, lIf, lBM, lFor, lLc, lDc, lIt, lRg1, lRg2, lEnum, lZip, lMeth, lCall, lProp, lFld, lFldS, lGlob, lIsi2, lChain, lSl, lSome, lNo, lAndV, lOrV, lNotV, lPar, lPar3, lMake, lDisp, lPCons, lPNil, lYes, lPTup, lUnP, lPIx, unP, gT, gCons2, gNil2, slotsOf_nil, slotsOf_cons, wipe2, sl, List.set, List.append_nil]
    rw [ixT_dic (opn_d o) rfl look_left]
    simp only [Dv.eqT, scalT, if_true]
    by_cases hl0 : l = 0
    · subst hl0
      simp only [decide_true, if_true]
      rw [ixT_dic (opn_d o) rfl look_large]
      refine ⟨Nat.zero_le _, fun p hp => ?_⟩
      have hpd : p ≠ d := fun z => by rw [z, opn_d o] at hp; cases hp
      have hpl : p ≠ lg := fun z => by rw [z, opn_lg o] at hp; cases hp
      have gd : gup (opn G0 d lg it 0 t ls is) p (.lst []) d = some (.dic (dkv lg it 0 t)) := by rw [gup_ne hpd.symm]; exact opn_d o
      have gl : gup (opn G0 d lg it 0 t ls is) p (.lst []) lg = some (.lst (ls.map T.int)) := by rw [gup_ne hpl.symm]; exact opn_lg o
      refine neT_lst gl gup_same (hints ls) PlaL.nil ?_
      cases ls with
      | nil => exact fin _ (Sub.gup hp)
      | cons x ls =>
        simp only [List.map_cons, reduceCtorEq, decide_false, Bool.not_false, if_true]
        refine ixT_dicI gd look_large ⟨tyT_lst gl, popT_atI (n := 0) gl rfl (by decide) rfl ?_⟩
        have e1 : gup (gup (opn G0 d lg it 0 t (x :: ls) is) p (.lst [])) lg (.lst (ls.map T.int)) d = some (.dic (dkv lg it 0 t)) := by rw [gup_ne nd]; exact gd
        refine setT_dicI e1 dkv_len ?_
        have o2 : Opn d lg it x t ls is n := ⟨o.n1, o.n2, o.n3, fun y hy => o.lpos y (by simp [hy]), o.ipos, o.ilen, by have := o.llen; simp at this; omega, o.lpos x (by simp), o.t0, o.tn⟩
        refine hR _ _ (opn G0 d lg it x t ls is) ?_ ⟨rfl, x, ls, o2, rfl⟩
        have sb := ((Sub.gup (o := .lst []) hp).gup2 (a := lg) (o := .lst (ls.map T.int))).gup2 (a := d) (o := .dic (dkv lg it x t))
        rw [opn_set_lg o, opn_set_d (ls := ls) ⟨o.n1, o.n2, o.n3, fun y hy => o.lpos y (by simp [hy]), o.ipos, o.ilen, by have := o.llen; simp at this; omega, o.l0, o.t0, o.tn⟩] at sb
        rw [put_left]
        exact sb
    · simp only [T.int.injEq, hl0, decide_false, Bool.false_eq_true, if_false]
      exact fin _ (Sub.refl _)
  case rest =>
    rintro S' G' ⟨rfl, l, ls, o, rfl⟩
    have q2 : ∀ G' r l' t', 0 ≤ r → r < sz → Opn d lg it l' t' ls is (n + 1) → Sub (opn G0 d lg it l' t' ls is) G' → rtF Φ (.int r) G' := fun G' r l' t' h1 h2 o' sb => ⟨_, sb, q r l' t' ls h1 h2 o'⟩
    have on : ∀ {l' t' : Int}, 0 ≤ l' → 0 ≤ t' → t' ≤ t + 1 → Opn d lg it l' t' ls is (n + 1) := fun h1 h2 h3 => ⟨o.n1, o.n2, o.n3, o.lpos, o.ipos, o.ilen, o.llen, h1, h2, by have := o.tn; omega⟩
    have md : ∀ i : Int, 0 ≤ i % sz ∧ i % sz < sz := fun i => ⟨Int.emod_nonneg _ (by omega), Int.emod_lt_of_pos _ hsz.1⟩
    refine sq1 (S1 := [some (.ref d), some (.int sz), none, none, none, none]) (G1 := opn G0 d lg it l t ls is) (fun R hR => ?_) ?_
    · simp only [lIfS, lAnd, lOr, lNot, lB, lOp, lVar, lC, lCons, lNil, lTup, lLst, lUn, lCB, lAsg, gN, lSet, lRet, lRetN, lDrop, lNext, lIf, lBM, lFor, lLc, lDc, lIt, lRg1, lRg2, lEnum, lZip, lMeth, lCall, lProp, lFld, lFldS, lGlob, lIsi2, lChain, lSl, lSome, lNo, lAndV, lOrV, lNotV, lPar, lPar3, lMake, lDisp, lPCons, lPNil, lYes, lPTup, lUnP, lPIx, unP, gT, gCons2, gNil2, slotsOf_nil, slotsOf_cons, wipe2, sl, List.set, List.append_nil]
      rw [ixT_dic (opn_d o) rfl look_left]
      simp only [ordT]
      by_cases hl0 : 0 < l
      · simp only [hl0, decide_true, if_true]
        simp only [lSeq, lIfS, lAnd, lOr, lNot, lB, lOp, lVar, lC, lCons, lNil, lTup, lLst, lUn, lCB, lAsg, gN, lSet, lRet, lRetN, lDrop, lNext, lIf, lBM, lFor, lLc, lDc, lIt, lRg1, lRg2, lEnum, lZip, lMeth, lCall, lProp, lFld, lFldS, lGlob, lIsi2, lChain, lSl, lSome, lNo, lAndV, lOrV, lNotV, lPar, lPar3, lMake, lDisp, lPCons, lPNil, lYes, lPTup, lUnP, lPIx, unP, gT, gCons2, gNil2, slotsOf_nil, slotsOf_cons, wipe2, sl, List.set, List.append_nil]
        rw [ixT_dic (opn_d o) rfl look_left]
        simp only [intCT, intT]
        refine ⟨hsz.1, _, Sub.refl _, ?_⟩
        rw [ixT_dic (opn_d o) rfl look_left]
        simp only [CDiv]
        refine ⟨⟨hsz.1, by omega⟩, ?_⟩
        rw [setT_dic (opn_d o) rfl]
        refine ⟨dkv_len, ?_⟩
        rw [put_left, opn_set_d o]
        refine ⟨_, Sub.refl _, ?_⟩
        exact q2 _ _ _ _ (md l).1 (md l).2 (on (Int.ediv_nonneg o.l0 (by omega)) o.t0 (by omega)) (Sub.refl _)
      · simp only [hl0, decide_false, Bool.false_eq_true, if_false]
        exact hR _ (Sub.refl _)
    refine sq1 (S1 := [some (.ref d), some (.int sz), none, some (.int (t + 1)), none, none]) (G1 := opn G0 d lg it l t ls is) (fun R hR => ?_) ?_
    · simp only [lIfS, lAnd, lOr, lNot, lB, lOp, lVar, lC, lCons, lNil, lTup, lLst, lUn, lCB, lAsg, gN, lSet, lRet, lRetN, lDrop, lNext, lIf, lBM, lFor, lLc, lDc, lIt, lRg1, lRg2, lEnum, lZip, lMeth, lCall, lProp, lFld, lFldS, lGlob, lIsi2, lChain, lSl, lSome, lNo, lAndV, lOrV, lNotV, lPar, lPar3, lMake, lDisp, lPCons, lPNil, lYes, lPTup, lUnP, lPIx, unP, gT, gCons2, gNil2, slotsOf_nil, slotsOf_cons, wipe2, sl, List.set, List.append_nil]
      exact ixT_dicI (opn_d o) look_turn (addT_int (hR _ (Sub.refl _)))
    have o1 : Opn d lg it l (t + 1) ls is (n + 1) := on o.l0 (by have := o.t0; omega) (Int.le_refl _)
    refine sq1 (S1 := [some (.ref d), some (.int sz), none, some (.int (t + 1)), none, none]) (G1 := opn G0 d lg it l (t + 1) ls is) (fun R hR => ?_) ?_
    · simp only [lSet, lIfS, lAnd, lOr, lNot, lB, lOp, lVar, lC, lCons, lNil, lTup, lLst, lUn, lCB, lAsg, gN, lSet, lRet, lRetN, lDrop, lNext, lIf, lBM, lFor, lLc, lDc, lIt, lRg1, lRg2, lEnum, lZip, lMeth, lCall, lProp, lFld, lFldS, lGlob, lIsi2, lChain, lSl, lSome, lNo, lAndV, lOrV, lNotV, lPar, lPar3, lMake, lDisp, lPCons, lPNil, lYes, lPTup, lUnP, lPIx, unP, gT, gCons2, gNil2, slotsOf_nil, slotsOf_cons, wipe2, sl, List.set, List.append_nil]
      refine setT_dicI (opn_d o) dkv_len ?_
      rw [put_turn, opn_set_d o]
      exact hR _ (Sub.refl _)
    refine sq1 (S1 := [some (.ref d), some (.int sz), none, some (.int (t + 1)), some (.int 0), none]) (G1 := opn G0 d lg it l (t + 1) ls is) (fun R hR => ?_) ?_
    · simp only [lIfS, lAnd, lOr, lNot, lB, lOp, lVar, lC, lCons, lNil, lTup, lLst, lUn, lCB, lAsg, gN, lSet, lRet, lRetN, lDrop, lNext, lIf, lBM, lFor, lLc, lDc, lIt, lRg1, lRg2, lEnum, lZip, lMeth, lCall, lProp, lFld, lFldS, lGlob, lIsi2, lChain, lSl, lSome, lNo, lAndV, lOrV, lNotV, lPar, lPar3, lMake, lDisp, lPCons, lPNil, lYes, lPTup, lUnP, lPIx, unP, gT, gCons2, gNil2, slotsOf_nil, slotsOf_cons, wipe2, sl, List.set, List.append_nil]
      exact hR _ (Sub.refl _)
    refine sq (M := fun S' G' => ∃ v : Int, S' = [some (.ref d), some (.int sz), none, some (.int (t + 1)), some (.int v), none] ∧ G' = opn G0 d lg it l (t + 1) ls is) ?_ (fun R hR => ?_)
    · rintro S' G' ⟨v, rfl, rfl⟩
      have h0 := o.t0
      have h1 := o.tn
      have hm1 : 0 ≤ v % 2147483629 ∧ v % 2147483629 < 2147483629 := ⟨Int.emod_nonneg _ (by omega), Int.emod_lt_of_pos _ (by omega)⟩
      refine sq (M := fun S' G' => ∃ m : Int, 0 ≤ m ∧ m < 2147483647 ∧ S' = [some (.ref d), some (.int sz), none, some (.int (t + 1)), some (.int v), some (.int m)] ∧ G' = opn G0 d lg it l (t + 1) ls is) ?_ (fun R hR => ?_)
      · rintro S' G' ⟨m, hm, hm2, rfl, rfl⟩
        simp only [lIfS, lAnd, lOr, lNot, lB, lOp, lVar, lC, lCons, lNil, lTup, lLst, lUn, lCB, lAsg, gN, lSet, lRet, lRetN, lDrop, lNext, lIf, lBM, lFor, lLc, lDc, lIt, lRg1, lRg2, lEnum, lZip, lMeth, lCall, lProp, lFld, lFldS, lGlob, lIsi2, lChain, lSl, lSome, lNo, lAndV, lOrV, lNotV, lPar, lPar3, lMake, lDisp, lPCons, lPNil, lYes, lPTup, lUnP, lPIx, unP, gT, gCons2, gNil2, slotsOf_nil, slotsOf_cons, wipe2, sl, List.set, List.append_nil]
        simp only [mulT, addT, intT, intCT, CPow, CDiv, CMul]
        refine ⟨.inl ⟨by decide, by decide⟩, ⟨by decide, by decide, ?_⟩, by decide, ⟨by decide, by decide⟩, hsz.1, ?_⟩
        · rw [hmd] at hn; omega
        · exact q2 _ _ _ _ (md _).1 (md _).2 o1 (Sub.refl _)
      · simp only [lIfS, lAnd, lOr, lNot, lB, lOp, lVar, lC, lCons, lNil, lTup, lLst, lUn, lCB, lAsg, gN, lSet, lRet, lRetN, lDrop, lNext, lIf, lBM, lFor, lLc, lDc, lIt, lRg1, lRg2, lEnum, lZip, lMeth, lCall, lProp, lFld, lFldS, lGlob, lIsi2, lChain, lSl, lSome, lNo, lAndV, lOrV, lNotV, lPar, lPar3, lMake, lDisp, lPCons, lPNil, lYes, lPTup, lUnP, lPIx, unP, gT, gCons2, gNil2, slotsOf_nil, slotsOf_cons, wipe2, sl, List.set, List.append_nil]
        simp only [mulT, addT, intT, intCT, CPow, CDiv, CMul]
        refine ⟨by decide, .inl ⟨by decide, by decide⟩, ⟨by decide, by decide, ?_⟩, by decide, ?_⟩
        · rw [hmd] at hn; omega
        · exact hR _ _ _ (Sub.refl _) ⟨_, Int.emod_nonneg _ (by decide), Int.emod_lt_of_pos _ (by decide), rfl, rfl⟩
    · simp only [lIfS, lAnd, lOr, lNot, lB, lOp, lVar, lC, lCons, lNil, lTup, lLst, lUn, lCB, lAsg, gN, lSet, lRet, lRetN, lDrop, lNext, lIf, lBM, lFor, lLc, lDc, lIt, lRg1, lRg2, lEnum, lZip, lMeth, lCall, lProp, lFld, lFldS, lGlob, lIsi2, lChain, lSl, lSome, lNo, lAndV, lOrV, lNotV, lPar, lPar3, lMake, lDisp, lPCons, lPNil, lYes, lPTup, lUnP, lPIx, unP, gT, gCons2, gNil2, slotsOf_nil, slotsOf_cons, wipe2, sl, List.set, List.append_nil]
      refine ixT_dicI (opn_d o1) look_items ⟨Nat.zero_le _, fun p hp => ?_⟩
      have hpd : p ≠ d := fun z => by rw [z, opn_d o1] at hp; cases hp
      have hpi : p ≠ it := fun z => by rw [z, opn_it] at hp; cases hp
      have gd : gup (opn G0 d lg it l (t + 1) ls is) p (.lst []) d = some (.dic (dkv lg it l (t + 1))) := by rw [gup_ne hpd.symm]; exact opn_d o1
      have gi : gup (opn G0 d lg it l (t + 1) ls is) p (.lst []) it = some (.lst (is.map T.int)) := by rw [gup_ne hpi.symm]; exact opn_it
      refine neT_lst gi gup_same (hints is) PlaL.nil ?_
      cases is with
      | nil => exact hR _ _ _ (Sub.gup hp) ⟨0, rfl, rfl⟩
      | cons x is =>
        simp only [List.map_cons, reduceCtorEq, decide_false, Bool.not_false, if_true]
        refine ixT_dicI gd look_items ?_
        simp only [intCT]
        refine ixT_dicI gd look_items (lenT_lstI gi ⟨by simp, ?_⟩)
        have hl : (0 : Int) < ((List.map T.int (x :: is)).length : Int) := by simp
        generalize hj : (t + 1) % ((List.map T.int (x :: is)).length : Int) = j
        have hj0 : 0 ≤ j := by rw [← hj]; exact Int.emod_nonneg _ (by omega)
        have hj1 : j < ((List.map T.int (x :: is)).length : Int) := by rw [← hj]; exact Int.emod_lt_of_pos _ hl
        obtain ⟨m, rfl⟩ := Int.eq_ofNat_of_zero_le hj0
        have hm : m < (x :: is).length := by rw [List.length_map] at hj1; omega
        refine ixT_lstI (t := .int (x :: is)[m]) gi ?_ (hR _ _ _ (Sub.gup hp) ⟨_, rfl, rfl⟩)
        rw [hj, atT_nat (xs := List.map T.int (x :: is)) (n := m) (by simpa using hm), List.getElem?_map, List.getElem?_eq_getElem hm]
        rfl
theorem kn__law_take (V : Env K mg) : Kn P w K mg base 1 "_law_take" spTake [] := kn_take (kn0__law_take V)
theorem sc__law_begin : FnScope ["_law_script", "_law_items", "_law_item"] ["_law_script"] (defScope (top 28)) := ⟨rfl, rfl, rfl, by decide +kernel, rfl, by decide +kernel, by decide +kernel⟩
theorem kn__law_begin (V : Env K mg) : KnB P w K mg base 1 "_law_begin" spBegin := by
  refine knB_begin (knB_of V.d__law_begin sc__law_begin rfl fun f cdv A outer s H E G Φ ΦE a ns hr ho hn hS hsp => ⟨_, (es_cons (s_setLc (j := 1) [("_law_item", 2)] sc__law_begin.nd (i_scr (fun H G g => (hS H G g).sq) (e_var 0)) (fun _ _ _ _ _ => (g_name (j := 2) sc__law_begin.nd rfl (by first | exact .inl rfl | exact .inr rfl))) (fun _ _ _ _ _ => ts_nil) (fun _ _ _ _ _ => (b_absE V.b_abs (ea_cons (e_var 2) ea_nil)))) (es_one (s_ret (e_disp (p_cons e_str (e_lc [("_law_item", 2)] sc__law_begin.nd (i_val (e_var 1)) (fun _ _ _ _ _ => (g_name (j := 2) sc__law_begin.nd rfl (by first | exact .inl rfl | exact .inr rfl))) (fun _ _ _ _ _ => (ts_one (et_cmp o_ge (e_var 2) (e_bin o_pow e_int e_int)))) (fun _ _ _ _ _ => (e_var 2))) (p_cons e_str (e_var 1) (p_cons e_str e_int (p_cons e_str e_int p_nil)))))))), ?_⟩)
  obtain ⟨a', e, q⟩ := hsp
  show lSeq _ _ _ [some (.ref a), none, none] _
  refine sq (M := fun S' G' => ∃ p, G p = none ∧ S' = [some (.ref a), some (.ref p), none] ∧ G' = gup G p (.lst ((ns.map fun i => if i < 0 then -i else i).map T.int))) ?_ (fun R hR => ?_)
  · rintro S' G' ⟨p, hp, rfl, rfl⟩
    simp only [lIfS, lAnd, lOr, lNot, lB, lOp, lVar, lC, lCons, lNil, lTup, lLst, lUn, lCB, lAsg, gN, lSet, lRet, lRetN, lDrop, lNext, lIf, lBM, lFor, lLc, lDc, lIt, lRg1, lRg2, lEnum, lZip, lMeth, lCall, lProp, lFld, lFldS, lGlob, lIsi2, lChain, lSl, lSome, lNo, lAndV, lOrV, lNotV, lPar, lPar3, lMake, lDisp, lPCons, lPNil, lYes, lPTup, lUnP, lPIx, unP, gT, gCons2, gNil2, slotsOf_nil, slotsOf_cons, wipe2, sl, List.set, List.append_nil]
    refine itT_lst gup_same (lc_pure (fun t => match t with | .int i => decide (10 ^ 18 ≤ i) | _ => false) id gup_same (by rw [List.length_map, List.length_map, sizeLine_eq]; omega) (fun t ht => ?_) ?_)
    · obtain ⟨i, _, rfl⟩ := List.mem_map.mp ht
      refine ⟨_, rfl, fun Φ h => ?_, fun _ G' sb Φ h => h _ (Sub.refl _)⟩
      simp only [lIfS, lAnd, lOr, lNot, lB, lOp, lVar, lC, lCons, lNil, lTup, lLst, lUn, lCB, lAsg, gN, lSet, lRet, lRetN, lDrop, lNext, lIf, lBM, lFor, lLc, lDc, lIt, lRg1, lRg2, lEnum, lZip, lMeth, lCall, lProp, lFld, lFldS, lGlob, lIsi2, lChain, lSl, lSome, lNo, lAndV, lOrV, lNotV, lPar, lPar3, lMake, lDisp, lPCons, lPNil, lYes, lPTup, lUnP, lPIx, unP, gT, gCons2, gNil2, slotsOf_nil, slotsOf_cons, wipe2, sl, List.set, List.append_nil]
      exact ⟨⟨by decide, by decide, by decide⟩, h _ (Sub.refl _)⟩
    · intro p1 hp1
      have n3 : p1 ≠ p := fresh_ne gup_same hp1
      refine ⟨rfl, (by decide : (4 : Nat) ≤ 15), fun d hd => ?_⟩
      have n1 : d ≠ p1 := fresh_ne gup_same hd
      rw [gup_ne n1] at hd
      have n2 : d ≠ p := fresh_ne gup_same hd
      rw [gup_ne n2] at hd
      rw [gup_ne n3] at hp1
      have hpos : ∀ x ∈ ns.map fun i => if i < 0 then -i else i, 0 ≤ x := by
        intro x hx
        obtain ⟨i, _, rfl⟩ := List.mem_map.mp hx
        split <;> omega
      have e1 : (List.filter (fun t => match t with | .int i => decide (10 ^ 18 ≤ i) | _ => false) (List.map T.int (ns.map fun i => if i < 0 then -i else i))).map id = ((ns.map fun i => if i < 0 then -i else i).filter fun i => decide (10 ^ 18 ≤ i)).map T.int := by
        rw [List.map_id, List.filter_map]
        rfl
      rw [e1]
      have qq := q d p1 p ((ns.map fun i => if i < 0 then -i else i).filter fun i => decide (10 ^ 18 ≤ i)) _ hd hp1 hp ⟨n1, n2, n3, fun x hx => hpos x (List.mem_filter.mp hx).1, hpos, by simpa using hn, Nat.le_trans (List.length_filter_le _ _) (by simpa using hn), Int.le_refl _, Int.le_refl _, Int.le_refl _⟩
      rw [← opn_of n1 n2 n3] at qq
      exact rtF.of qq
  · simp only [lIfS, lAnd, lOr, lNot, lB, lOp, lVar, lC, lCons, lNil, lTup, lLst, lUn, lCB, lAsg, gN, lSet, lRet, lRetN, lDrop, lNext, lIf, lBM, lFor, lLc, lDc, lIt, lRg1, lRg2, lEnum, lZip, lMeth, lCall, lProp, lFld, lFldS, lGlob, lIsi2, lChain, lSl, lSome, lNo, lAndV, lOrV, lNotV, lPar, lPar3, lMake, lDisp, lPCons, lPNil, lYes, lPTup, lUnP, lPIx, unP, gT, gCons2, gNil2, slotsOf_nil, slotsOf_cons, wipe2, sl, List.set, List.append_nil]
    refine ⟨trivial, ?_⟩
    refine lc_pure (fun _ => true) (fun t => match t with | .int i => .int (if i < 0 then -i else i) | t => t) trivial (by rw [List.length_map, sizeLine_eq]; omega) (fun t ht => ?_) ?_
    · obtain ⟨i, _, rfl⟩ := List.mem_map.mp ht
      exact ⟨_, rfl, fun Φ h => h _ (Sub.refl _), fun _ G' sb Φ h => h _ (Sub.refl _)⟩
    · intro p hp
      refine hR _ _ _ (Sub.refl _) ⟨p, hp, rfl, ?_⟩
      congr 2
      rw [List.map_map, List.filter_eq_self.mpr (fun _ _ => rfl), List.map_map]
      rfl
theorem sc__law_pick : FnScope ["_law_draw", "_law_some"] ["_law_draw", "_law_some"] (defScope (top 30)) := ⟨rfl, rfl, rfl, by decide +kernel, rfl, by decide +kernel, by decide +kernel⟩
/-- a list that isn't empty, or a tuple of the module -/
theorem kn__law_pick (V : Env K mg) : Kn P w K mg base 2 "_law_pick" spPick [] := by
  refine kn_of V.d__law_pick sc__law_pick (by rintro ts G Φ ΦE ⟨d, a, n, xs, rfl, _⟩; rfl) fun f cdv A outer s H E ts G Φ ΦE hr ho hsp => ⟨_, (es_one (s_ret (e_ix hr.u1 (e_var 1) (e_kn (kn__law_take V) (hr.mono (by decide)) (ea_cons (e_var 0) (ea_cons (b_lenE V.b_len (ea_cons (e_var 1) ea_nil)) ea_nil))) (fun _ _ => rfl)))), ?_⟩
  obtain ⟨d, a, n, xs, rfl, hd, ha, h0, hl, hn, q⟩ := hsp
  show lRet _ _ [some (.ref d), some (.ref a)] _
  have nda : a ≠ d := fun z => by rw [z, hd] at ha; cases ha
  simp only [lIfS, lAnd, lOr, lNot, lB, lOp, lVar, lC, lCons, lNil, lTup, lLst, lUn, lCB, lAsg, gN, lSet, lRet, lRetN, lDrop, lNext, lIf, lBM, lFor, lLc, lDc, lIt, lRg1, lRg2, lEnum, lZip, lMeth, lCall, lProp, lFld, lFldS, lGlob, lIsi2, lChain, lSl, lSome, lNo, lAndV, lOrV, lNotV, lPar, lPar3, lMake, lDisp, lPCons, lPNil, lYes, lPTup, lUnP, lPIx, unP, gT, gCons2, gNil2, slotsOf_nil, slotsOf_cons, wipe2, sl, List.set, List.append_nil]
  refine lenT_lstI ha ⟨d, _, n, rfl, hd, ⟨by omega, by omega⟩, hn, fun r h1 h2 => ?_⟩
  obtain ⟨m, rfl⟩ := Int.eq_ofNat_of_zero_le h1
  have hm : m < xs.length := by omega
  have e : gup G d (.drw (n + 1)) a = some (.lst xs) := by rw [gup_ne nda]; exact ha
  exact ixT_lstI e (by rw [atT_nat hm, List.getElem?_eq_getElem hm]) (rtF.of (q _ (List.getElem_mem hm)))

theorem kv__law_take (V : Env K mg) : KnV P w K mg base 1 "_law_take" 2 [0] vTake := (kn__law_take V).imp take_lift
/-- a pick of a list, of a tuple or of a text -/
def vPickS : SpV := fun σ Ψ _ => ∃ n p ps, σ 0 = some (.ab (drw n)) ∧ σ 1 = some (.fr p) ∧ itP p = some ps ∧ 0 < ps.length ∧ ps.length ≤ 20000 ∧ n < mostDraws ∧ ∀ q ∈ ps, Ψ (.fr q) (drS (n + 1))
theorem res_dr {σ : SV} {n : Nat} (h : σ 0 = some (.ab (drw n))) : resS [0] σ = drS n := by
  funext i
  unfold resS drS conS nilS
  cases i with
  | zero => simp [h]
  | succ i => simp
theorem atI_nat {α : Type} {xs : List α} {j : Nat} (h : j < xs.length) : atI xs (j : Int) = some xs[j] := by
  unfold atI
  have : ixN xs.length (j : Int) = some j := by
    unfold ixN
    simp
    omega
  rw [this]
  exact List.getElem?_eq_getElem h

theorem kv__law_pick (V : Env K mg) : KnV P w K mg base 2 "_law_pick" 2 [0] vPickS := by
  refine knv_of (io := [0]) V.d__law_pick sc__law_pick rfl (by decide) fun f cdv A outer s H E en hr => ⟨_, (evss_one (evs_ret (ev_op (fun _ _ h k => e_ix hr.u1 h k (fun _ _ => rfl)) ov_ix (ev_var (e_var 1)) (ev_call (fun _ => .nil) (fun _ h => e_kn (kv__law_take V) (hr.mono (by decide)) h) (eva_cons (ev_var (e_var 0)) (eva_cons (ev_cb (fun _ h => b_lenE V.b_len h) cv_len (eva_cons (ev_var (e_var 1)) eva_nil)) eva_nil)))))), ?_⟩
  rintro σ Ψ ΨE ⟨n, p, ps, h0, h1, hp, l0, l1, hn, q⟩
  have hz : ps.length ≤ sizeLine := by rw [sizeLine_eq]; omega
  simp only [itP] at hp
  split at hp <;> cases hp
  · simp only [vItems, Vl.pairP, vIndex, isLP, sortP, ssetP, int2P, joinP, vScr, vCallW, permL, List.filterMap_cons, List.filterMap_nil, vVar, vC, vNil, vCons, fz, vOp, vB, vAnd, vOr, vNot, vAndV, vOrV, vNotV, vIf, bP, vChain, vCB, rdL, vTup, vLst, tkL, vDict0, vNo, vSome, slP, vSl, vRev, vNeg, vIsi2, rd, giv, Vl.tk, vset_ap, eqB, neB, ordB, isB, isNonP, inB, Vl.addP, intP, mulP, ixP, lenP, absP, intCP, listP, tupP, dictP, isiP, tyP, keyP, vNext, vDrop, vRet, vRetN, vIfS, vBreak, vCont, vSet, vAsg, fvN, fvNil, fvCons, fvT, vPar, vIt, itP, vRg1, vRg2, vEnum, vZip, vFor, vForD, vdV, vdF, vLc, vLcD, vYes, vDc, vCall, vCallN, vApp, argV, slA, argS, Vl.cellOf, backV, conS, List.map_nil, List.map_cons, List.append_nil, List.cons_append, List.nil_append, List.length_cons, List.length_nil, List.mem_cons, List.not_mem_nil, List.getElem?_cons_zero, List.getElem?_cons_succ, List.getElem?_nil, or_false, List.nodup_nil, List.nodup_cons, not_false_eq_true, vMut, kdL, appP, extP, popP, insP, vUpd, owD, kdD, vStore, vGet1, vGet2, isDP, vPNil, vPCons, vDisp, vMeth, InsR, vProp, InsQ, vFld, putP, vFldS, vMake, vMakeN, slotsOf_nil, slotsOf_cons, vdel, endsV, endsL, resS, Option.isSome_some, reduceIte, Option.bind_some, true_and, and_true, Nat.reduceEqDiff, Nat.one_ne_zero, Nat.zero_ne_one, not_true_eq_false, false_and, and_false, if_true, if_false, Nat.zero_add, Nat.add_zero, h0, h1, vTake]
    refine ⟨n, _, rfl, rfl, ⟨by omega, by omega⟩, hn, fun r h2 h3 => ?_⟩
    obtain ⟨j, rfl⟩ := Int.eq_ofNat_of_zero_le h2
    have hj : j < ps.length := by omega
    simp only [vItems, Vl.pairP, vIndex, isLP, sortP, ssetP, int2P, joinP, vScr, vCallW, permL, List.filterMap_cons, List.filterMap_nil, vVar, vC, vNil, vCons, fz, vOp, vB, vAnd, vOr, vNot, vAndV, vOrV, vNotV, vIf, bP, vChain, vCB, rdL, vTup, vLst, tkL, vDict0, vNo, vSome, slP, vSl, vRev, vNeg, vIsi2, rd, giv, Vl.tk, vset_ap, eqB, neB, ordB, isB, isNonP, inB, Vl.addP, intP, mulP, ixP, lenP, absP, intCP, listP, tupP, dictP, isiP, tyP, keyP, vNext, vDrop, vRet, vRetN, vIfS, vBreak, vCont, vSet, vAsg, fvN, fvNil, fvCons, fvT, vPar, vIt, itP, vRg1, vRg2, vEnum, vZip, vFor, vForD, vdV, vdF, vLc, vLcD, vYes, vDc, vCall, vCallN, vApp, argV, slA, argS, Vl.cellOf, backV, conS, List.map_nil, List.map_cons, List.append_nil, List.cons_append, List.nil_append, List.length_cons, List.length_nil, List.mem_cons, List.not_mem_nil, List.getElem?_cons_zero, List.getElem?_cons_succ, List.getElem?_nil, or_false, List.nodup_nil, List.nodup_cons, not_false_eq_true, vMut, kdL, appP, extP, popP, insP, vUpd, owD, kdD, vStore, vGet1, vGet2, isDP, vPNil, vPCons, vDisp, vMeth, InsR, vProp, InsQ, vFld, putP, vFldS, vMake, vMakeN, slotsOf_nil, slotsOf_cons, vdel, endsV, endsL, resS, Option.isSome_some, reduceIte, Option.bind_some, true_and, and_true, Nat.reduceEqDiff, Nat.one_ne_zero, Nat.zero_ne_one, not_true_eq_false, false_and, and_false, if_true, if_false, Nat.zero_add, Nat.add_zero, drS, conS, h1, atI_nat hj]
    rw [res_dr (n := n + 1) rfl]
    exact q _ (List.getElem_mem hj)
  · simp only [vItems, Vl.pairP, vIndex, isLP, sortP, ssetP, int2P, joinP, vScr, vCallW, permL, List.filterMap_cons, List.filterMap_nil, vVar, vC, vNil, vCons, fz, vOp, vB, vAnd, vOr, vNot, vAndV, vOrV, vNotV, vIf, bP, vChain, vCB, rdL, vTup, vLst, tkL, vDict0, vNo, vSome, slP, vSl, vRev, vNeg, vIsi2, rd, giv, Vl.tk, vset_ap, eqB, neB, ordB, isB, isNonP, inB, Vl.addP, intP, mulP, ixP, lenP, absP, intCP, listP, tupP, dictP, isiP, tyP, keyP, vNext, vDrop, vRet, vRetN, vIfS, vBreak, vCont, vSet, vAsg, fvN, fvNil, fvCons, fvT, vPar, vIt, itP, vRg1, vRg2, vEnum, vZip, vFor, vForD, vdV, vdF, vLc, vLcD, vYes, vDc, vCall, vCallN, vApp, argV, slA, argS, Vl.cellOf, backV, conS, List.map_nil, List.map_cons, List.append_nil, List.cons_append, List.nil_append, List.length_cons, List.length_nil, List.mem_cons, List.not_mem_nil, List.getElem?_cons_zero, List.getElem?_cons_succ, List.getElem?_nil, or_false, List.nodup_nil, List.nodup_cons, not_false_eq_true, vMut, kdL, appP, extP, popP, insP, vUpd, owD, kdD, vStore, vGet1, vGet2, isDP, vPNil, vPCons, vDisp, vMeth, InsR, vProp, InsQ, vFld, putP, vFldS, vMake, vMakeN, slotsOf_nil, slotsOf_cons, vdel, endsV, endsL, resS, Option.isSome_some, reduceIte, Option.bind_some, true_and, and_true, Nat.reduceEqDiff, Nat.one_ne_zero, Nat.zero_ne_one, not_true_eq_false, false_and, and_false, if_true, if_false, Nat.zero_add, Nat.add_zero, h0, h1, vTake]
    refine ⟨n, _, rfl, rfl, ⟨by omega, by omega⟩, hn, fun r h2 h3 => ?_⟩
    obtain ⟨j, rfl⟩ := Int.eq_ofNat_of_zero_le h2
    have hj : j < ps.length := by omega
    simp only [vItems, Vl.pairP, vIndex, isLP, sortP, ssetP, int2P, joinP, vScr, vCallW, permL, List.filterMap_cons, List.filterMap_nil, vVar, vC, vNil, vCons, fz, vOp, vB, vAnd, vOr, vNot, vAndV, vOrV, vNotV, vIf, bP, vChain, vCB, rdL, vTup, vLst, tkL, vDict0, vNo, vSome, slP, vSl, vRev, vNeg, vIsi2, rd, giv, Vl.tk, vset_ap, eqB, neB, ordB, isB, isNonP, inB, Vl.addP, intP, mulP, ixP, lenP, absP, intCP, listP, tupP, dictP, isiP, tyP, keyP, vNext, vDrop, vRet, vRetN, vIfS, vBreak, vCont, vSet, vAsg, fvN, fvNil, fvCons, fvT, vPar, vIt, itP, vRg1, vRg2, vEnum, vZip, vFor, vForD, vdV, vdF, vLc, vLcD, vYes, vDc, vCall, vCallN, vApp, argV, slA, argS, Vl.cellOf, backV, conS, List.map_nil, List.map_cons, List.append_nil, List.cons_append, List.nil_append, List.length_cons, List.length_nil, List.mem_cons, List.not_mem_nil, List.getElem?_cons_zero, List.getElem?_cons_succ, List.getElem?_nil, or_false, List.nodup_nil, List.nodup_cons, not_false_eq_true, vMut, kdL, appP, extP, popP, insP, vUpd, owD, kdD, vStore, vGet1, vGet2, isDP, vPNil, vPCons, vDisp, vMeth, InsR, vProp, InsQ, vFld, putP, vFldS, vMake, vMakeN, slotsOf_nil, slotsOf_cons, vdel, endsV, endsL, resS, Option.isSome_some, reduceIte, Option.bind_some, true_and, and_true, Nat.reduceEqDiff, Nat.one_ne_zero, Nat.zero_ne_one, not_true_eq_false, false_and, and_false, if_true, if_false, Nat.zero_add, Nat.add_zero, drS, conS, h1, atI_nat hj]
    rw [res_dr (n := n + 1) rfl]
    exact q _ (List.getElem_mem hj)
  · rename_i z
    rw [List.length_map] at l0 l1 hz
    simp only [vItems, Vl.pairP, vIndex, isLP, sortP, ssetP, int2P, joinP, vScr, vCallW, permL, List.filterMap_cons, List.filterMap_nil, vVar, vC, vNil, vCons, fz, vOp, vB, vAnd, vOr, vNot, vAndV, vOrV, vNotV, vIf, bP, vChain, vCB, rdL, vTup, vLst, tkL, vDict0, vNo, vSome, slP, vSl, vRev, vNeg, vIsi2, rd, giv, Vl.tk, vset_ap, eqB, neB, ordB, isB, isNonP, inB, Vl.addP, intP, mulP, ixP, lenP, absP, intCP, listP, tupP, dictP, isiP, tyP, keyP, vNext, vDrop, vRet, vRetN, vIfS, vBreak, vCont, vSet, vAsg, fvN, fvNil, fvCons, fvT, vPar, vIt, itP, vRg1, vRg2, vEnum, vZip, vFor, vForD, vdV, vdF, vLc, vLcD, vYes, vDc, vCall, vCallN, vApp, argV, slA, argS, Vl.cellOf, backV, conS, List.map_nil, List.map_cons, List.append_nil, List.cons_append, List.nil_append, List.length_cons, List.length_nil, List.mem_cons, List.not_mem_nil, List.getElem?_cons_zero, List.getElem?_cons_succ, List.getElem?_nil, or_false, List.nodup_nil, List.nodup_cons, not_false_eq_true, vMut, kdL, appP, extP, popP, insP, vUpd, owD, kdD, vStore, vGet1, vGet2, isDP, vPNil, vPCons, vDisp, vMeth, InsR, vProp, InsQ, vFld, putP, vFldS, vMake, vMakeN, slotsOf_nil, slotsOf_cons, vdel, endsV, endsL, resS, Option.isSome_some, reduceIte, Option.bind_some, true_and, and_true, Nat.reduceEqDiff, Nat.one_ne_zero, Nat.zero_ne_one, not_true_eq_false, false_and, and_false, if_true, if_false, Nat.zero_add, Nat.add_zero, h0, h1, vTake]
    have zl : z.length = z.cps.toList.length := by rw [Array.length_toList]; rfl
    refine ⟨by rw [zl]; exact hz, n, _, rfl, rfl, ⟨by omega, by omega⟩, hn, fun r h2 h3 => ?_⟩
    obtain ⟨j, rfl⟩ := Int.eq_ofNat_of_zero_le h2
    have hj : j < z.cps.toList.length := by omega
    simp only [vItems, Vl.pairP, vIndex, isLP, sortP, ssetP, int2P, joinP, vScr, vCallW, permL, List.filterMap_cons, List.filterMap_nil, vVar, vC, vNil, vCons, fz, vOp, vB, vAnd, vOr, vNot, vAndV, vOrV, vNotV, vIf, bP, vChain, vCB, rdL, vTup, vLst, tkL, vDict0, vNo, vSome, slP, vSl, vRev, vNeg, vIsi2, rd, giv, Vl.tk, vset_ap, eqB, neB, ordB, isB, isNonP, inB, Vl.addP, intP, mulP, ixP, lenP, absP, intCP, listP, tupP, dictP, isiP, tyP, keyP, vNext, vDrop, vRet, vRetN, vIfS, vBreak, vCont, vSet, vAsg, fvN, fvNil, fvCons, fvT, vPar, vIt, itP, vRg1, vRg2, vEnum, vZip, vFor, vForD, vdV, vdF, vLc, vLcD, vYes, vDc, vCall, vCallN, vApp, argV, slA, argS, Vl.cellOf, backV, conS, List.map_nil, List.map_cons, List.append_nil, List.cons_append, List.nil_append, List.length_cons, List.length_nil, List.mem_cons, List.not_mem_nil, List.getElem?_cons_zero, List.getElem?_cons_succ, List.getElem?_nil, or_false, List.nodup_nil, List.nodup_cons, not_false_eq_true, vMut, kdL, appP, extP, popP, insP, vUpd, owD, kdD, vStore, vGet1, vGet2, isDP, vPNil, vPCons, vDisp, vMeth, InsR, vProp, InsQ, vFld, putP, vFldS, vMake, vMakeN, slotsOf_nil, slotsOf_cons, vdel, endsV, endsL, resS, Option.isSome_some, reduceIte, Option.bind_some, true_and, and_true, Nat.reduceEqDiff, Nat.one_ne_zero, Nat.zero_ne_one, not_true_eq_false, false_and, and_false, if_true, if_false, Nat.zero_add, Nat.add_zero, drS, conS, h1, atI_nat hj]
    rw [res_dr (n := n + 1) rfl]
    exact ⟨by rw [zl]; exact hz, q _ (List.mem_map.mpr ⟨_, List.getElem_mem hj, rfl⟩)⟩
/-- data that may be compared -/
def OkPs (ps : List PV) : Prop := ∀ p ∈ ps, okP p = true ∧ dpP p ≤ 60
theorem OkPs.perm {ps qs : List PV} (h : OkPs ps) (e : qs.Perm ps) : OkPs qs := fun p hp => h p (e.subset hp)
theorem cmp_nil {ps : List PV} (h : OkPs ps) : Cmp (.lst ps) (.lst []) := .inr ⟨by rw [okP]; exact okL_iff.mpr fun t ht => (h t ht).1, rfl, by cases ps <;> simp [cpP, cpL], by rw [dpP]; have := dpL_le fun t ht => (h t ht).2; omega, by decide⟩
theorem perm_eraseP : ∀ (l : List PV) (i : Nat) (h : i < l.length), ([l[i]] ++ l.eraseIdx i).Perm l
  | [], _, h => absurd h (Nat.not_lt_zero _)
  | x :: l, 0, _ => List.Perm.refl _
  | x :: l, i + 1, h => by
    have hi : i < l.length := by simpa using h
    have ih := perm_eraseP l i hi
    simp only [List.getElem_cons_succ, List.eraseIdx_cons_succ, List.singleton_append] at ih ⊢
    exact (List.Perm.swap x l[i] _).trans (List.Perm.cons x ih)
def vShuf : SpV := fun σ Ψ _ => ∃ n ps, σ 0 = some (.ab (drw n)) ∧ σ 1 = some (.fr (.lst ps)) ∧ OkPs ps ∧ ps.length ≤ 1000 ∧ n + ps.length < mostDraws ∧ ∀ ys, ys.Perm ps → Ψ (.ow (.lst ys)) (drS (n + ps.length))
theorem sc__law_shuffled : FnScope ["_law_draw", "_law_some", "_law_left", "_law_found"] ["_law_draw", "_law_some"] (defScope (top 31)) := ⟨rfl, rfl, rfl, by decide +kernel, rfl, by decide +kernel, by decide +kernel⟩

theorem kv__law_shuffled (V : Env K mg) : KnV P w K mg base 2 "_law_shuffled" 2 [0] vShuf := by
  refine knv_of (io := [0]) V.d__law_shuffled sc__law_shuffled rfl (by decide) fun f cdv A outer s H E en hr => ⟨_, (evss_cons (evs_par (j := 2) (k := 3) rfl sc__law_shuffled.nd rfl rfl (by decide) rfl rfl (ev_cb (fun _ h => b_listE V.b_list h) cv_list (eva_cons (ev_var (e_var 1)) eva_nil)) (ev_lst eva_nil) rfl) (evss_cons (evs_while (passes_of rfl) (evt_op (fun _ _ h k => et_cmp (o_ne hr.u64) h k) ob_ne.v (ev_var (e_var 2)) (ev_lst eva_nil)) (evss_one (evs_expr (ev_mut (i := 3) (fun _ h => e_append (e_var 3) h) mv_append (eva_cons (ev_mut (i := 2) (fun _ h => e_pop (e_var 2) h) mv_pop (eva_cons (ev_call (fun _ => .nil) (fun _ h => e_kn (kv__law_take V) (hr.mono (by decide)) h) (eva_cons (ev_var (e_var 0)) (eva_cons (ev_cb (fun _ h => b_lenE V.b_len h) cv_len (eva_cons (ev_var (e_var 2)) eva_nil)) eva_nil))) eva_nil)) eva_nil))))) (evss_one (evs_ret (ev_var (e_var 3)))))), ?_⟩
  rintro σ Ψ ΨE ⟨n, ps, h0, h1, hok, hl, hn, q⟩
  have hz : ∀ m : Nat, m ≤ 20000 → m ≤ sizeLine := fun m h => by rw [sizeLine_eq]; omega
  refine vsq (M := fun τ => τ 0 = some (.ab (drw n)) ∧ τ 2 = some (.ow (.lst ps)) ∧ τ 3 = some (.ow (.lst []))) ?_ fun R hR => ?_
  · rintro τ ⟨e0, e1, e2⟩
    refine vsq (M := fun τ => ∃ ys, τ 0 = some (.ab (drw (n + ps.length))) ∧ τ 3 = some (.ow (.lst ys)) ∧ ys.Perm ps) ?_ fun R hR => ?_
    · rintro τ ⟨ys, e0, e1, hp⟩
      simp only [vItems, Vl.pairP, vIndex, isLP, sortP, ssetP, int2P, joinP, vScr, vCallW, permL, List.filterMap_cons, List.filterMap_nil, vVar, vC, vNil, vCons, fz, vOp, vB, vAnd, vOr, vNot, vAndV, vOrV, vNotV, vIf, bP, vChain, vCB, rdL, vTup, vLst, tkL, vDict0, vNo, vSome, slP, vSl, vRev, vNeg, vIsi2, rd, giv, Vl.tk, vset_ap, eqB, neB, ordB, isB, isNonP, inB, Vl.addP, intP, mulP, ixP, lenP, absP, intCP, listP, tupP, dictP, isiP, tyP, keyP, vNext, vDrop, vRet, vRetN, vIfS, vBreak, vCont, vSet, vAsg, fvN, fvNil, fvCons, fvT, vPar, vIt, itP, vRg1, vRg2, vEnum, vZip, vFor, vForD, vdV, vdF, vLc, vLcD, vYes, vDc, vCall, vCallN, vApp, argV, slA, argS, Vl.cellOf, backV, conS, List.map_nil, List.map_cons, List.append_nil, List.cons_append, List.nil_append, List.length_cons, List.length_nil, List.mem_cons, List.not_mem_nil, List.getElem?_cons_zero, List.getElem?_cons_succ, List.getElem?_nil, or_false, List.nodup_nil, List.nodup_cons, not_false_eq_true, vMut, kdL, appP, extP, popP, insP, vUpd, owD, kdD, vStore, vGet1, vGet2, isDP, vPNil, vPCons, vDisp, vMeth, InsR, vProp, InsQ, vFld, putP, vFldS, vMake, vMakeN, slotsOf_nil, slotsOf_cons, vdel, endsV, endsL, resS, Option.isSome_some, reduceIte, Option.bind_some, true_and, and_true, Nat.reduceEqDiff, Nat.one_ne_zero, Nat.zero_ne_one, not_true_eq_false, false_and, and_false, if_true, if_false, Nat.zero_add, Nat.add_zero, e1]
      simp only [res_dr e0]
      exact q ys hp
    · refine ⟨fun m τ => ∃ ls ys, τ 0 = some (.ab (drw (n + ys.length))) ∧ τ 2 = some (.ow (.lst ls)) ∧ τ 3 = some (.ow (.lst ys)) ∧ (ys ++ ls).Perm ps ∧ m = ls.length, ⟨ps.length, ps, [], e0, e1, e2, .refl _, rfl⟩, ?_⟩
      rintro m τ ⟨ls, ys, e0, e1, e2, hp, rfl⟩
      have hlen : ys.length + ls.length = ps.length := by rw [← List.length_append]; exact hp.length_eq
      simp only [vItems, Vl.pairP, vIndex, isLP, sortP, ssetP, int2P, joinP, vScr, vCallW, permL, List.filterMap_cons, List.filterMap_nil, vVar, vC, vNil, vCons, fz, vOp, vB, vAnd, vOr, vNot, vAndV, vOrV, vNotV, vIf, bP, vChain, vCB, rdL, vTup, vLst, tkL, vDict0, vNo, vSome, slP, vSl, vRev, vNeg, vIsi2, rd, giv, Vl.tk, vset_ap, eqB, neB, ordB, isB, isNonP, inB, Vl.addP, intP, mulP, ixP, lenP, absP, intCP, listP, tupP, dictP, isiP, tyP, keyP, vNext, vDrop, vRet, vRetN, vIfS, vBreak, vCont, vSet, vAsg, fvN, fvNil, fvCons, fvT, vPar, vIt, itP, vRg1, vRg2, vEnum, vZip, vFor, vForD, vdV, vdF, vLc, vLcD, vYes, vDc, vCall, vCallN, vApp, argV, slA, argS, Vl.cellOf, backV, conS, List.map_nil, List.map_cons, List.append_nil, List.cons_append, List.nil_append, List.length_cons, List.length_nil, List.mem_cons, List.not_mem_nil, List.getElem?_cons_zero, List.getElem?_cons_succ, List.getElem?_nil, or_false, List.nodup_nil, List.nodup_cons, not_false_eq_true, vMut, kdL, appP, extP, popP, insP, vUpd, owD, kdD, vStore, vGet1, vGet2, isDP, vPNil, vPCons, vDisp, vMeth, InsR, vProp, InsQ, vFld, putP, vFldS, vMake, vMakeN, slotsOf_nil, slotsOf_cons, vdel, endsV, endsL, resS, Option.isSome_some, reduceIte, Option.bind_some, true_and, and_true, Nat.reduceEqDiff, Nat.one_ne_zero, Nat.zero_ne_one, not_true_eq_false, false_and, and_false, if_true, if_false, Nat.zero_add, Nat.add_zero, e0, e1, e2]
      refine ⟨hz 0 (by decide), cmp_nil fun p hp' => hok p (hp.subset (List.mem_append.mpr (.inr hp'))), ?_⟩
      cases ls with
      | nil =>
        simp only [decide_true, Bool.not_true, Bool.false_eq_true, if_false]
        exact hR _ ⟨ys, by rw [e0]; simp at hlen; rw [hlen], e2, by simpa using hp⟩
      | cons x ls =>
        simp only [PV.lst.injEq, reduceCtorEq, decide_false, Bool.not_false, if_true]
        have hmd : mostDraws = 10 ^ 9 := rfl
        have hlen' := hlen
        rw [List.length_cons] at hlen'
        refine ⟨n + ys.length, _, e0, rfl, ⟨by rw [List.length_cons]; omega, by rw [List.length_cons]; omega⟩, by omega, fun r h2 h3 => ?_⟩
        simp only [vItems, Vl.pairP, vIndex, isLP, sortP, ssetP, int2P, joinP, vScr, vCallW, permL, List.filterMap_cons, List.filterMap_nil, vVar, vC, vNil, vCons, fz, vOp, vB, vAnd, vOr, vNot, vAndV, vOrV, vNotV, vIf, bP, vChain, vCB, rdL, vTup, vLst, tkL, vDict0, vNo, vSome, slP, vSl, vRev, vNeg, vIsi2, rd, giv, Vl.tk, vset_ap, eqB, neB, ordB, isB, isNonP, inB, Vl.addP, intP, mulP, ixP, lenP, absP, intCP, listP, tupP, dictP, isiP, tyP, keyP, vNext, vDrop, vRet, vRetN, vIfS, vBreak, vCont, vSet, vAsg, fvN, fvNil, fvCons, fvT, vPar, vIt, itP, vRg1, vRg2, vEnum, vZip, vFor, vForD, vdV, vdF, vLc, vLcD, vYes, vDc, vCall, vCallN, vApp, argV, slA, argS, Vl.cellOf, backV, conS, List.map_nil, List.map_cons, List.append_nil, List.cons_append, List.nil_append, List.length_cons, List.length_nil, List.mem_cons, List.not_mem_nil, List.getElem?_cons_zero, List.getElem?_cons_succ, List.getElem?_nil, or_false, List.nodup_nil, List.nodup_cons, not_false_eq_true, vMut, kdL, appP, extP, popP, insP, vUpd, owD, kdD, vStore, vGet1, vGet2, isDP, vPNil, vPCons, vDisp, vMeth, InsR, vProp, InsQ, vFld, putP, vFldS, vMake, vMakeN, slotsOf_nil, slotsOf_cons, vdel, endsV, endsL, resS, Option.isSome_some, reduceIte, Option.bind_some, true_and, and_true, Nat.reduceEqDiff, Nat.one_ne_zero, Nat.zero_ne_one, not_true_eq_false, false_and, and_false, if_true, if_false, Nat.zero_add, Nat.add_zero, drS, e0, e1, e2]
        obtain ⟨j, rfl⟩ := Int.eq_ofNat_of_zero_le h2
        have hj : j < (x :: ls).length := by omega
        rw [Int.toNat_natCast, List.getElem?_eq_getElem hj]
        rw [List.length_cons] at hj
        refine ⟨⟨h2, by omega⟩, by rw [sizeLine_eq]; omega, _, ?_, _, ys ++ [(x :: ls)[j]], by simp [Nat.add_assoc], rfl, rfl, ?_, rfl⟩
        · rw [List.length_eraseIdx]; simp [hj]
        · refine List.Perm.trans ?_ hp
          rw [List.append_assoc]
          exact (perm_eraseP (x :: ls) j hj).append_left ys
  · simp only [vItems, Vl.pairP, vIndex, isLP, sortP, ssetP, int2P, joinP, vScr, vCallW, permL, List.filterMap_cons, List.filterMap_nil, vVar, vC, vNil, vCons, fz, vOp, vB, vAnd, vOr, vNot, vAndV, vOrV, vNotV, vIf, bP, vChain, vCB, rdL, vTup, vLst, tkL, vDict0, vNo, vSome, slP, vSl, vRev, vNeg, vIsi2, rd, giv, Vl.tk, vset_ap, eqB, neB, ordB, isB, isNonP, inB, Vl.addP, intP, mulP, ixP, lenP, absP, intCP, listP, tupP, dictP, isiP, tyP, keyP, vNext, vDrop, vRet, vRetN, vIfS, vBreak, vCont, vSet, vAsg, fvN, fvNil, fvCons, fvT, vPar, vIt, itP, vRg1, vRg2, vEnum, vZip, vFor, vForD, vdV, vdF, vLc, vLcD, vYes, vDc, vCall, vCallN, vApp, argV, slA, argS, Vl.cellOf, backV, conS, List.map_nil, List.map_cons, List.append_nil, List.cons_append, List.nil_append, List.length_cons, List.length_nil, List.mem_cons, List.not_mem_nil, List.getElem?_cons_zero, List.getElem?_cons_succ, List.getElem?_nil, or_false, List.nodup_nil, List.nodup_cons, not_false_eq_true, vMut, kdL, appP, extP, popP, insP, vUpd, owD, kdD, vStore, vGet1, vGet2, isDP, vPNil, vPCons, vDisp, vMeth, InsR, vProp, InsQ, vFld, putP, vFldS, vMake, vMakeN, slotsOf_nil, slotsOf_cons, vdel, endsV, endsL, resS, Option.isSome_some, reduceIte, Option.bind_some, true_and, and_true, Nat.reduceEqDiff, Nat.one_ne_zero, Nat.zero_ne_one, not_true_eq_false, false_and, and_false, if_true, if_false, Nat.zero_add, Nat.add_zero, h1]
    exact ⟨hz 0 (by decide), hR _ ⟨by simpa [vset] using h0, by simp [vset], by simp [vset]⟩⟩

end K17
namespace K17
open PySem PySem.Spec PyProof.Rows L2 Dv Vl
variable {P : Program} {w : World} {K : Fr0} {mg : Str → Option Value} {base : Heap}
/-! ### names, layouts -/
def letters : Str := "abcdefghijklmnopqrstuvwxyz"
def NameS (s : Str) : Prop := (1 ≤ s.length ∧ s.length ≤ 8) ∧ ∀ c ∈ s.cps.toList, c ∈ letters.cps.toList
theorem zr {m : Nat} (h : m ≤ 20000) : m ≤ sizeLine := by rw [sizeLine_eq]; omega
theorem res_nil {σ : SV} : resS [] σ = nilS := by
  funext i
  simp [resS, nilS]
theorem ty_int : "int" ∈ tysS := by decide
theorem ty_bool : "bool" ∈ tysS := by decide
theorem ty_str : "str" ∈ tysS := by decide
theorem ty_dict : "dict" ∈ tysS := by decide
theorem ty_tuple : "tuple" ∈ tysS := by decide
theorem sub_same (n : String) : subS n n = true := by unfold subS; simp
theorem sub_ib : subS "int" "bool" = false := by decide
theorem flt_none {l : List PV} : l.filter (fun _ => false) = [] := by simp
theorem dget_some : ∀ {kvs : List (Key × PV)} {k : Key}, k ∈ kvs.map (·.1) → ∃ v, dgetP kvs k = some v ∧ (k, v) ∈ kvs
  | [], _, h => by cases h
  | (j, p) :: r, k, h => by
    simp only [dgetP]
    by_cases e : j = k
    · subst e; exact ⟨p, by simp, List.mem_cons_self⟩
    · rw [if_neg e]
      obtain ⟨v, h1, h2⟩ := dget_some (kvs := r) (k := k) (by simpa [Ne.symm e] using h)
      exact ⟨v, h1, List.mem_cons_of_mem _ h2⟩
theorem dget_mem : ∀ {kvs : List (Key × PV)} {k : Key} {v : PV}, (kvs.map (·.1)).Nodup → (k, v) ∈ kvs → dgetP kvs k = some v
  | (j, p) :: r, k, v, nd, h => by
    simp only [dgetP]
    rw [List.map_cons, List.nodup_cons] at nd
    rcases List.mem_cons.mp h with e | e
    · cases e; simp
    · have : j ≠ k := fun z => nd.1 (by rw [z]; exact List.mem_map.mpr ⟨_, e, rfl⟩)
      rw [if_neg this]
      exact dget_mem nd.2 e
/-- one value, frozen -/
def v1 (C : PV → Prop) (f : PV → PV) : SpV := fun σ Ψ _ => ∃ p, σ 0 = some (.fr p) ∧ C p ∧ Ψ (.fr (f p)) nilS
theorem sc_is_integer : FnScope ["value"] ["value"] (defScope (top 7)) := ⟨rfl, rfl, rfl, by decide +kernel, rfl, by decide +kernel, by decide +kernel⟩

theorem kv_is_integer (V : Env K mg) : KnV P w K mg base 1 "is_integer" 1 [] (v1 (fun p => ∃ i, p = .int i) fun _ => .bl true) := by
  refine knv_of (io := []) V.d_is_integer sc_is_integer rfl (by decide) fun f cdv A outer s H E en hr => ⟨_, (evss_one (evs_ret (ev_and (ev_cb (fun _ h => b_isiE V.b_isinstance h) cv_isi (eva_cons (ev_var (e_var 0)) (eva_cons (ev_c (e_ty rfl V.b_int rfl) (fun _ => .ty _)) eva_nil))) (ev_one (ev_not (ev_cb (fun _ h => b_isiE V.b_isinstance h) cv_isi (eva_cons (ev_var (e_var 0)) (eva_cons (ev_c (e_ty rfl V.b_bool rfl) (fun _ => .ty _)) eva_nil)))))))), ?_⟩
  rintro σ Ψ ΨE ⟨p, h0, ⟨i, rfl⟩, q⟩
  simp only [vItems, Vl.pairP, vIndex, isLP, sortP, ssetP, int2P, joinP, vScr, vCallW, permL, List.filterMap_cons, List.filterMap_nil, vVar, vC, vNil, vCons, fz, vOp, vB, vAnd, vOr, vNot, vAndV, vOrV, vNotV, vIf, bP, vChain, vCB, rdL, vTup, vLst, tkL, vDict0, vNo, vSome, slP, vSl, vRev, vNeg, vIsi2, rd, giv, Vl.tk, vset_ap, eqB, neB, ordB, isB, isNonP, inB, Vl.addP, intP, mulP, ixP, lenP, absP, intCP, listP, tupP, dictP, isiP, tyP, keyP, vNext, vDrop, vRet, vRetN, vIfS, vBreak, vCont, vSet, vAsg, fvN, fvNil, fvCons, fvT, vPar, vIt, itP, vRg1, vRg2, vEnum, vZip, vFor, vForD, vdV, vdF, vLc, vLcD, vYes, vDc, vCall, vCallN, vApp, argV, slA, argS, Vl.cellOf, backV, conS, List.map_nil, List.map_cons, List.append_nil, List.cons_append, List.nil_append, List.length_cons, List.length_nil, List.mem_cons, List.not_mem_nil, List.getElem?_cons_zero, List.getElem?_cons_succ, List.getElem?_nil, or_false, List.nodup_nil, List.nodup_cons, not_false_eq_true, vMut, kdL, appP, extP, popP, insP, vUpd, owD, kdD, vStore, vGet1, vGet2, isDP, vPNil, vPCons, vDisp, vMeth, InsR, vProp, InsQ, vFld, putP, vFldS, vMake, vMakeN, slotsOf_nil, slotsOf_cons, vdel, endsV, endsL, resS, Option.isSome_some, reduceIte, Option.bind_some, true_and, and_true, Nat.reduceEqDiff, Nat.one_ne_zero, Nat.zero_ne_one, not_true_eq_false, false_and, and_false, if_true, if_false, Nat.zero_add, Nat.add_zero, h0]
  simp only [res_nil, sub_same, sub_ib, Bool.not_false, if_true]
  exact ⟨ty_int, ty_bool, q⟩
theorem sc_is_name : FnScope ["value", "sign"] ["value"] (defScope (top 8)) := ⟨rfl, rfl, rfl, by decide +kernel, rfl, by decide +kernel, by decide +kernel⟩

theorem kv_is_name (V : Env K mg) : KnV P w K mg base 1 "is_name" 1 [] (v1 (fun p => ∃ s, p = .str s ∧ NameS s) fun _ => .bl true) := by
  refine knv_of (io := []) V.d_is_name sc_is_name rfl (by decide) fun f cdv A outer s H E en hr => ⟨_, (evss_cons (evs_if (evt_w (evw_or (evt_not (evt_val (ev_cb (fun _ h => b_isiE V.b_isinstance h) cv_isi (eva_cons (ev_var (e_var 0)) (eva_cons (ev_c (e_ty rfl V.b_str rfl) (fun _ => .ty _)) eva_nil))))) (evw_or1 (evt_not (evt_chain (fun _ _ _ h k l => et_chain o_le o_le h k l) ob_ord ob_ord ev_int (ev_cb (fun _ h => b_lenE V.b_len h) cv_len (eva_cons (ev_var (e_var 0)) eva_nil)) ev_int))))) (evss_one (evs_ret ev_bl)) evss_nil) (evss_one (evs_ret (ev_op (fun _ _ h k => e_cmp (o_eq hr.u64) h k) ob_eq.v (ev_lc [("sign", 1)] sc_is_name.nd (evi_val (ev_var (e_var 0))) (fun _ _ _ _ _ => (gv_name (j := 1) sc_is_name.nd rfl (by first | exact .inl rfl | exact .inr rfl))) (fun _ _ _ _ _ => (evts_one (evt_op (fun _ _ h k => et_cmp (o_notin hr.u65) h k) ob_in.v (ev_var (e_var 1)) (ev_glob (e_gStr V.g_LETTERS) (fun _ => .str _))))) (fun _ _ _ _ _ => (ev_var (e_var 1))) only_name) (ev_lst eva_nil))))), ?_⟩
  rintro σ Ψ ΨE ⟨p, h0, ⟨s, rfl, hs⟩, q⟩
  simp only [vItems, Vl.pairP, vIndex, isLP, sortP, ssetP, int2P, joinP, vScr, vCallW, permL, List.filterMap_cons, List.filterMap_nil, vVar, vC, vNil, vCons, fz, vOp, vB, vAnd, vOr, vNot, vAndV, vOrV, vNotV, vIf, bP, vChain, vCB, rdL, vTup, vLst, tkL, vDict0, vNo, vSome, slP, vSl, vRev, vNeg, vIsi2, rd, giv, Vl.tk, vset_ap, eqB, neB, ordB, isB, isNonP, inB, Vl.addP, intP, mulP, ixP, lenP, absP, intCP, listP, tupP, dictP, isiP, tyP, keyP, vNext, vDrop, vRet, vRetN, vIfS, vBreak, vCont, vSet, vAsg, fvN, fvNil, fvCons, fvT, vPar, vIt, itP, vRg1, vRg2, vEnum, vZip, vFor, vForD, vdV, vdF, vLc, vLcD, vYes, vDc, vCall, vCallN, vApp, argV, slA, argS, Vl.cellOf, backV, conS, List.map_nil, List.map_cons, List.append_nil, List.cons_append, List.nil_append, List.length_cons, List.length_nil, List.mem_cons, List.not_mem_nil, List.getElem?_cons_zero, List.getElem?_cons_succ, List.getElem?_nil, or_false, List.nodup_nil, List.nodup_cons, not_false_eq_true, vMut, kdL, appP, extP, popP, insP, vUpd, owD, kdD, vStore, vGet1, vGet2, isDP, vPNil, vPCons, vDisp, vMeth, InsR, vProp, InsQ, vFld, putP, vFldS, vMake, vMakeN, slotsOf_nil, slotsOf_cons, vdel, endsV, endsL, resS, Option.isSome_some, reduceIte, Option.bind_some, true_and, and_true, Nat.reduceEqDiff, Nat.one_ne_zero, Nat.zero_ne_one, not_true_eq_false, false_and, and_false, if_true, if_false, Nat.zero_add, Nat.add_zero, h0]
  refine vsq1 (σ1 := σ) (fun R hR => ?_) ?_
  · have h1 : ((1 : Int) ≤ (s.length : Int)) := by have := hs.1.1; omega
    have h2 : ((s.length : Int) ≤ 8) := by have := hs.1.2; omega
    simp only [vItems, Vl.pairP, vIndex, isLP, sortP, ssetP, int2P, joinP, vScr, vCallW, permL, List.filterMap_cons, List.filterMap_nil, vVar, vC, vNil, vCons, fz, vOp, vB, vAnd, vOr, vNot, vAndV, vOrV, vNotV, vIf, bP, vChain, vCB, rdL, vTup, vLst, tkL, vDict0, vNo, vSome, slP, vSl, vRev, vNeg, vIsi2, rd, giv, Vl.tk, vset_ap, eqB, neB, ordB, isB, isNonP, inB, Vl.addP, intP, mulP, ixP, lenP, absP, intCP, listP, tupP, dictP, isiP, tyP, keyP, vNext, vDrop, vRet, vRetN, vIfS, vBreak, vCont, vSet, vAsg, fvN, fvNil, fvCons, fvT, vPar, vIt, itP, vRg1, vRg2, vEnum, vZip, vFor, vForD, vdV, vdF, vLc, vLcD, vYes, vDc, vCall, vCallN, vApp, argV, slA, argS, Vl.cellOf, backV, conS, List.map_nil, List.map_cons, List.append_nil, List.cons_append, List.nil_append, List.length_cons, List.length_nil, List.mem_cons, List.not_mem_nil, List.getElem?_cons_zero, List.getElem?_cons_succ, List.getElem?_nil, or_false, List.nodup_nil, List.nodup_cons, not_false_eq_true, vMut, kdL, appP, extP, popP, insP, vUpd, owD, kdD, vStore, vGet1, vGet2, isDP, vPNil, vPCons, vDisp, vMeth, InsR, vProp, InsQ, vFld, putP, vFldS, vMake, vMakeN, slotsOf_nil, slotsOf_cons, vdel, endsV, endsL, resS, Option.isSome_some, reduceIte, Option.bind_some, true_and, and_true, Nat.reduceEqDiff, Nat.one_ne_zero, Nat.zero_ne_one, not_true_eq_false, false_and, and_false, if_true, if_false, Nat.zero_add, Nat.add_zero, h0, sub_same, Bool.not_true, h1, h2, decide_true]
    exact ⟨ty_str, zr (by have := hs.1.2; omega), hR⟩
  · have hlen : s.cps.toList.length ≤ 8 := by rw [Array.length_toList]; exact hs.1.2
    simp only [vItems, Vl.pairP, vIndex, isLP, sortP, ssetP, int2P, joinP, vScr, vCallW, permL, List.filterMap_cons, List.filterMap_nil, vVar, vC, vNil, vCons, fz, vOp, vB, vAnd, vOr, vNot, vAndV, vOrV, vNotV, vIf, bP, vChain, vCB, rdL, vTup, vLst, tkL, vDict0, vNo, vSome, slP, vSl, vRev, vNeg, vIsi2, rd, giv, Vl.tk, vset_ap, eqB, neB, ordB, isB, isNonP, inB, Vl.addP, intP, mulP, ixP, lenP, absP, intCP, listP, tupP, dictP, isiP, tyP, keyP, vNext, vDrop, vRet, vRetN, vIfS, vBreak, vCont, vSet, vAsg, fvN, fvNil, fvCons, fvT, vPar, vIt, itP, vRg1, vRg2, vEnum, vZip, vFor, vForD, vdV, vdF, vLc, vLcD, vYes, vDc, vCall, vCallN, vApp, argV, slA, argS, Vl.cellOf, backV, conS, List.map_nil, List.map_cons, List.append_nil, List.cons_append, List.nil_append, List.length_cons, List.length_nil, List.mem_cons, List.not_mem_nil, List.getElem?_cons_zero, List.getElem?_cons_succ, List.getElem?_nil, or_false, List.nodup_nil, List.nodup_cons, not_false_eq_true, vMut, kdL, appP, extP, popP, insP, vUpd, owD, kdD, vStore, vGet1, vGet2, isDP, vPNil, vPCons, vDisp, vMeth, InsR, vProp, InsQ, vFld, putP, vFldS, vMake, vMakeN, slotsOf_nil, slotsOf_cons, vdel, endsV, endsL, resS, Option.isSome_some, reduceIte, Option.bind_some, true_and, and_true, Nat.reduceEqDiff, Nat.one_ne_zero, Nat.zero_ne_one, not_true_eq_false, false_and, and_false, if_true, if_false, Nat.zero_add, Nat.add_zero, h0]
    refine lcV_pure (fun _ => false) id (zr (by rw [List.length_map]; omega)) (fun x hx => ?_) ?_
    · obtain ⟨c, hc, rfl⟩ := List.mem_map.mp hx
      refine ⟨_, rfl, fun A B hA hB => ?_⟩
      simp only [vItems, Vl.pairP, vIndex, isLP, sortP, ssetP, int2P, joinP, vScr, vCallW, permL, List.filterMap_cons, List.filterMap_nil, vVar, vC, vNil, vCons, fz, vOp, vB, vAnd, vOr, vNot, vAndV, vOrV, vNotV, vIf, bP, vChain, vCB, rdL, vTup, vLst, tkL, vDict0, vNo, vSome, slP, vSl, vRev, vNeg, vIsi2, rd, giv, Vl.tk, vset_ap, eqB, neB, ordB, isB, isNonP, inB, Vl.addP, intP, mulP, ixP, lenP, absP, intCP, listP, tupP, dictP, isiP, tyP, keyP, vNext, vDrop, vRet, vRetN, vIfS, vBreak, vCont, vSet, vAsg, fvN, fvNil, fvCons, fvT, vPar, vIt, itP, vRg1, vRg2, vEnum, vZip, vFor, vForD, vdV, vdF, vLc, vLcD, vYes, vDc, vCall, vCallN, vApp, argV, slA, argS, Vl.cellOf, backV, conS, List.map_nil, List.map_cons, List.append_nil, List.cons_append, List.nil_append, List.length_cons, List.length_nil, List.mem_cons, List.not_mem_nil, List.getElem?_cons_zero, List.getElem?_cons_succ, List.getElem?_nil, or_false, List.nodup_nil, List.nodup_cons, not_false_eq_true, vMut, kdL, appP, extP, popP, insP, vUpd, owD, kdD, vStore, vGet1, vGet2, isDP, vPNil, vPCons, vDisp, vMeth, InsR, vProp, InsQ, vFld, putP, vFldS, vMake, vMakeN, slotsOf_nil, slotsOf_cons, vdel, endsV, endsL, resS, Option.isSome_some, reduceIte, Option.bind_some, true_and, and_true, Nat.reduceEqDiff, Nat.one_ne_zero, Nat.zero_ne_one, not_true_eq_false, false_and, and_false, if_true, if_false, Nat.zero_add, Nat.add_zero]
      refine ⟨c, rfl, ?_⟩
      have : decide (c ∈ (Str.ofString "abcdefghijklmnopqrstuvwxyz").cps.toList) = true := decide_eq_true (hs.2 c hc)
      simp only [this, Bool.not_true, Bool.false_eq_true, if_false]
      exact hA rfl _ fun i hi => out1 i hi
    · simp only [flt_none, List.map_nil, vItems, Vl.pairP, vIndex, isLP, sortP, ssetP, int2P, joinP, vScr, vCallW, permL, List.filterMap_cons, List.filterMap_nil, vVar, vC, vNil, vCons, fz, vOp, vB, vAnd, vOr, vNot, vAndV, vOrV, vNotV, vIf, bP, vChain, vCB, rdL, vTup, vLst, tkL, vDict0, vNo, vSome, slP, vSl, vRev, vNeg, vIsi2, rd, giv, Vl.tk, vset_ap, eqB, neB, ordB, isB, isNonP, inB, Vl.addP, intP, mulP, ixP, lenP, absP, intCP, listP, tupP, dictP, isiP, tyP, keyP, vNext, vDrop, vRet, vRetN, vIfS, vBreak, vCont, vSet, vAsg, fvN, fvNil, fvCons, fvT, vPar, vIt, itP, vRg1, vRg2, vEnum, vZip, vFor, vForD, vdV, vdF, vLc, vLcD, vYes, vDc, vCall, vCallN, vApp, argV, slA, argS, Vl.cellOf, backV, conS, List.map_nil, List.map_cons, List.append_nil, List.cons_append, List.nil_append, List.length_cons, List.length_nil, List.mem_cons, List.not_mem_nil, List.getElem?_cons_zero, List.getElem?_cons_succ, List.getElem?_nil, or_false, List.nodup_nil, List.nodup_cons, not_false_eq_true, vMut, kdL, appP, extP, popP, insP, vUpd, owD, kdD, vStore, vGet1, vGet2, isDP, vPNil, vPCons, vDisp, vMeth, InsR, vProp, InsQ, vFld, putP, vFldS, vMake, vMakeN, slotsOf_nil, slotsOf_cons, vdel, endsV, endsL, resS, Option.isSome_some, reduceIte, Option.bind_some, true_and, and_true, Nat.reduceEqDiff, Nat.one_ne_zero, Nat.zero_ne_one, not_true_eq_false, false_and, and_false, if_true, if_false, Nat.zero_add, Nat.add_zero]
      refine ⟨zr (by decide), cmp_nil (fun p hp => by cases hp), ?_⟩
      simp only [decide_true, res_nil]
      exact q
theorem sc_is_set : FnScope ["value"] ["value"] (defScope (top 12)) := ⟨rfl, rfl, rfl, by decide +kernel, rfl, by decide +kernel, by decide +kernel⟩

theorem kv_is_set (V : Env K mg) : KnV P w K mg base 2 "is_set" 1 [] (v1 (fun p => ∃ i, p = .int i ∧ 0 ≤ i ∧ i < 8) fun _ => .bl true) := by
  refine knv_of (io := []) V.d_is_set sc_is_set rfl (by decide) fun f cdv A outer s H E en hr => ⟨_, (evss_one (evs_ret (ev_and (ev_call (fun _ => .nil) (fun _ h => e_kn (kv_is_integer V) (hr.mono (by decide)) h) (eva_cons (ev_var (e_var 0)) eva_nil)) (ev_one (ev_chain (fun _ _ _ h k l => e_chain o_le o_lt h k l) ob_ord ob_ord ev_int (ev_var (e_var 0)) (ev_glob (e_gInt V.g_MOST_SETS) (fun _ => .int _))))))), ?_⟩
  rintro σ Ψ ΨE ⟨p, h0, ⟨i, rfl, hs⟩, q⟩
  simp only [vItems, Vl.pairP, vIndex, isLP, sortP, ssetP, int2P, joinP, vScr, vCallW, permL, List.filterMap_cons, List.filterMap_nil, vVar, vC, vNil, vCons, fz, vOp, vB, vAnd, vOr, vNot, vAndV, vOrV, vNotV, vIf, bP, vChain, vCB, rdL, vTup, vLst, tkL, vDict0, vNo, vSome, slP, vSl, vRev, vNeg, vIsi2, rd, giv, Vl.tk, vset_ap, eqB, neB, ordB, isB, isNonP, inB, Vl.addP, intP, mulP, ixP, lenP, absP, intCP, listP, tupP, dictP, isiP, tyP, keyP, vNext, vDrop, vRet, vRetN, vIfS, vBreak, vCont, vSet, vAsg, fvN, fvNil, fvCons, fvT, vPar, vIt, itP, vRg1, vRg2, vEnum, vZip, vFor, vForD, vdV, vdF, vLc, vLcD, vYes, vDc, vCall, vCallN, vApp, argV, slA, argS, Vl.cellOf, backV, conS, List.map_nil, List.map_cons, List.append_nil, List.cons_append, List.nil_append, List.length_cons, List.length_nil, List.mem_cons, List.not_mem_nil, List.getElem?_cons_zero, List.getElem?_cons_succ, List.getElem?_nil, or_false, List.nodup_nil, List.nodup_cons, not_false_eq_true, vMut, kdL, appP, extP, popP, insP, vUpd, owD, kdD, vStore, vGet1, vGet2, isDP, vPNil, vPCons, vDisp, vMeth, InsR, vProp, InsQ, vFld, putP, vFldS, vMake, vMakeN, slotsOf_nil, slotsOf_cons, vdel, endsV, endsL, resS, Option.isSome_some, reduceIte, Option.bind_some, true_and, and_true, Nat.reduceEqDiff, Nat.one_ne_zero, Nat.zero_ne_one, not_true_eq_false, false_and, and_false, if_true, if_false, Nat.zero_add, Nat.add_zero, h0]
  refine ⟨_, rfl, ⟨i, rfl⟩, ?_⟩
  simp only [hs.1, hs.2, decide_true, if_true, res_nil]
  exact q
/-- a layout: some names, each with its set -/
structure LayP (kvs : List (Key × PV)) : Prop where
  len : 1 ≤ kvs.length ∧ kvs.length ≤ 12
  nd : (kvs.map (·.1)).Nodup
  ok : ∀ kv ∈ kvs, ∃ s i, kv = (.inr s, .int i) ∧ NameS s ∧ 0 ≤ i ∧ i < 8
theorem sc_is_layout : FnScope ["value", "block"] ["value"] (defScope (top 13)) := ⟨rfl, rfl, rfl, by decide +kernel, rfl, by decide +kernel, by decide +kernel⟩

theorem kv_is_layout (V : Env K mg) : KnV P w K mg base 3 "is_layout" 1 [] (v1 (fun p => ∃ kvs, p = .dic kvs ∧ LayP kvs) fun _ => .bl true) := by
  refine knv_of (io := []) V.d_is_layout sc_is_layout rfl (by decide) fun f cdv A outer s H E en hr => ⟨_, (evss_cons (evs_if (evt_w (evw_or (evt_not (evt_val (ev_cb (fun _ h => b_isiE V.b_isinstance h) cv_isi (eva_cons (ev_var (e_var 0)) (eva_cons (ev_c (e_ty rfl V.b_dict rfl) (fun _ => .ty _)) eva_nil))))) (evw_or1 (evt_not (evt_chain (fun _ _ _ h k l => et_chain o_le o_le h k l) ob_ord ob_ord ev_int (ev_cb (fun _ h => b_lenE V.b_len h) cv_len (eva_cons (ev_var (e_var 0)) eva_nil)) (ev_glob (e_gInt V.g_MOST_KEPT) (fun _ => .int _))))))) (evss_one (evs_ret ev_bl)) evss_nil) (evss_one (evs_ret (ev_op (fun _ _ h k => e_cmp (o_eq hr.u64) h k) ob_eq.v (ev_lcD [("block", 1)] loc_var sc_is_layout.nd (e_var 0) (fun _ _ _ _ _ => (gv_name (j := 1) sc_is_layout.nd rfl (by first | exact .inl rfl | exact .inr rfl))) (fun _ _ _ _ _ => (evts_one (evt_w (evw_or (evt_not (evt_val (ev_call (fun _ => .nil) (fun _ h => e_kn (kv_is_name V) (hr.mono (by decide)) h) (eva_cons (ev_var (e_var 1)) eva_nil)))) (evw_or1 (evt_not (evt_val (ev_call (fun _ => .nil) (fun _ h => e_kn (kv_is_set V) (hr.mono (by decide)) h) (eva_cons (ev_op (fun _ _ h k => e_ix hr.u1 h k (fun _ _ => rfl)) ov_ix (ev_var (e_var 0)) (ev_var (e_var 1))) eva_nil))))))))) (fun _ _ _ _ _ => (ev_var (e_var 1))) only_name) (ev_lst eva_nil))))), ?_⟩
  rintro σ Ψ ΨE ⟨p, h0, ⟨kvs, rfl, hs⟩, q⟩
  simp only [vItems, Vl.pairP, vIndex, isLP, sortP, ssetP, int2P, joinP, vScr, vCallW, permL, List.filterMap_cons, List.filterMap_nil, vVar, vC, vNil, vCons, fz, vOp, vB, vAnd, vOr, vNot, vAndV, vOrV, vNotV, vIf, bP, vChain, vCB, rdL, vTup, vLst, tkL, vDict0, vNo, vSome, slP, vSl, vRev, vNeg, vIsi2, rd, giv, Vl.tk, vset_ap, eqB, neB, ordB, isB, isNonP, inB, Vl.addP, intP, mulP, ixP, lenP, absP, intCP, listP, tupP, dictP, isiP, tyP, keyP, vNext, vDrop, vRet, vRetN, vIfS, vBreak, vCont, vSet, vAsg, fvN, fvNil, fvCons, fvT, vPar, vIt, itP, vRg1, vRg2, vEnum, vZip, vFor, vForD, vdV, vdF, vLc, vLcD, vYes, vDc, vCall, vCallN, vApp, argV, slA, argS, Vl.cellOf, backV, conS, List.map_nil, List.map_cons, List.append_nil, List.cons_append, List.nil_append, List.length_cons, List.length_nil, List.mem_cons, List.not_mem_nil, List.getElem?_cons_zero, List.getElem?_cons_succ, List.getElem?_nil, or_false, List.nodup_nil, List.nodup_cons, not_false_eq_true, vMut, kdL, appP, extP, popP, insP, vUpd, owD, kdD, vStore, vGet1, vGet2, isDP, vPNil, vPCons, vDisp, vMeth, InsR, vProp, InsQ, vFld, putP, vFldS, vMake, vMakeN, slotsOf_nil, slotsOf_cons, vdel, endsV, endsL, resS, Option.isSome_some, reduceIte, Option.bind_some, true_and, and_true, Nat.reduceEqDiff, Nat.one_ne_zero, Nat.zero_ne_one, not_true_eq_false, false_and, and_false, if_true, if_false, Nat.zero_add, Nat.add_zero, h0]
  refine vsq1 (σ1 := σ) (fun R hR => ?_) ?_
  · have h1 : ((1 : Int) ≤ (kvs.length : Int)) := by have := hs.len.1; omega
    have h2 : ((kvs.length : Int) ≤ 12) := by have := hs.len.2; omega
    simp only [vItems, Vl.pairP, vIndex, isLP, sortP, ssetP, int2P, joinP, vScr, vCallW, permL, List.filterMap_cons, List.filterMap_nil, vVar, vC, vNil, vCons, fz, vOp, vB, vAnd, vOr, vNot, vAndV, vOrV, vNotV, vIf, bP, vChain, vCB, rdL, vTup, vLst, tkL, vDict0, vNo, vSome, slP, vSl, vRev, vNeg, vIsi2, rd, giv, Vl.tk, vset_ap, eqB, neB, ordB, isB, isNonP, inB, Vl.addP, intP, mulP, ixP, lenP, absP, intCP, listP, tupP, dictP, isiP, tyP, keyP, vNext, vDrop, vRet, vRetN, vIfS, vBreak, vCont, vSet, vAsg, fvN, fvNil, fvCons, fvT, vPar, vIt, itP, vRg1, vRg2, vEnum, vZip, vFor, vForD, vdV, vdF, vLc, vLcD, vYes, vDc, vCall, vCallN, vApp, argV, slA, argS, Vl.cellOf, backV, conS, List.map_nil, List.map_cons, List.append_nil, List.cons_append, List.nil_append, List.length_cons, List.length_nil, List.mem_cons, List.not_mem_nil, List.getElem?_cons_zero, List.getElem?_cons_succ, List.getElem?_nil, or_false, List.nodup_nil, List.nodup_cons, not_false_eq_true, vMut, kdL, appP, extP, popP, insP, vUpd, owD, kdD, vStore, vGet1, vGet2, isDP, vPNil, vPCons, vDisp, vMeth, InsR, vProp, InsQ, vFld, putP, vFldS, vMake, vMakeN, slotsOf_nil, slotsOf_cons, vdel, endsV, endsL, resS, Option.isSome_some, reduceIte, Option.bind_some, true_and, and_true, Nat.reduceEqDiff, Nat.one_ne_zero, Nat.zero_ne_one, not_true_eq_false, false_and, and_false, if_true, if_false, Nat.zero_add, Nat.add_zero, h0, sub_same, Bool.not_true, h1, h2, decide_true]
    exact ⟨ty_dict, hR⟩
  · simp only [vItems, Vl.pairP, vIndex, isLP, sortP, ssetP, int2P, joinP, vScr, vCallW, permL, List.filterMap_cons, List.filterMap_nil, vVar, vC, vNil, vCons, fz, vOp, vB, vAnd, vOr, vNot, vAndV, vOrV, vNotV, vIf, bP, vChain, vCB, rdL, vTup, vLst, tkL, vDict0, vNo, vSome, slP, vSl, vRev, vNeg, vIsi2, rd, giv, Vl.tk, vset_ap, eqB, neB, ordB, isB, isNonP, inB, Vl.addP, intP, mulP, ixP, lenP, absP, intCP, listP, tupP, dictP, isiP, tyP, keyP, vNext, vDrop, vRet, vRetN, vIfS, vBreak, vCont, vSet, vAsg, fvN, fvNil, fvCons, fvT, vPar, vIt, itP, vRg1, vRg2, vEnum, vZip, vFor, vForD, vdV, vdF, vLc, vLcD, vYes, vDc, vCall, vCallN, vApp, argV, slA, argS, Vl.cellOf, backV, conS, List.map_nil, List.map_cons, List.append_nil, List.cons_append, List.nil_append, List.length_cons, List.length_nil, List.mem_cons, List.not_mem_nil, List.getElem?_cons_zero, List.getElem?_cons_succ, List.getElem?_nil, or_false, List.nodup_nil, List.nodup_cons, not_false_eq_true, vMut, kdL, appP, extP, popP, insP, vUpd, owD, kdD, vStore, vGet1, vGet2, isDP, vPNil, vPCons, vDisp, vMeth, InsR, vProp, InsQ, vFld, putP, vFldS, vMake, vMakeN, slotsOf_nil, slotsOf_cons, vdel, endsV, endsL, resS, Option.isSome_some, reduceIte, Option.bind_some, true_and, and_true, Nat.reduceEqDiff, Nat.one_ne_zero, Nat.zero_ne_one, not_true_eq_false, false_and, and_false, if_true, if_false, Nat.zero_add, Nat.add_zero, h0]
    refine lcV_pure (fun _ => false) id (zr (by rw [List.length_map]; have := hs.len.2; omega)) (fun x hx => ?_) ?_
    · obtain ⟨⟨k, v⟩, hc, rfl⟩ := List.mem_map.mp hx
      obtain ⟨s, i, e, hn, hi⟩ := hs.ok _ hc
      cases e
      refine ⟨_, rfl, fun A B hA hB => ?_⟩
      simp only [vItems, Vl.pairP, vIndex, isLP, sortP, ssetP, int2P, joinP, vScr, vCallW, permL, List.filterMap_cons, List.filterMap_nil, vVar, vC, vNil, vCons, fz, vOp, vB, vAnd, vOr, vNot, vAndV, vOrV, vNotV, vIf, bP, vChain, vCB, rdL, vTup, vLst, tkL, vDict0, vNo, vSome, slP, vSl, vRev, vNeg, vIsi2, rd, giv, Vl.tk, vset_ap, eqB, neB, ordB, isB, isNonP, inB, Vl.addP, intP, mulP, ixP, lenP, absP, intCP, listP, tupP, dictP, isiP, tyP, keyP, vNext, vDrop, vRet, vRetN, vIfS, vBreak, vCont, vSet, vAsg, fvN, fvNil, fvCons, fvT, vPar, vIt, itP, vRg1, vRg2, vEnum, vZip, vFor, vForD, vdV, vdF, vLc, vLcD, vYes, vDc, vCall, vCallN, vApp, argV, slA, argS, Vl.cellOf, backV, conS, List.map_nil, List.map_cons, List.append_nil, List.cons_append, List.nil_append, List.length_cons, List.length_nil, List.mem_cons, List.not_mem_nil, List.getElem?_cons_zero, List.getElem?_cons_succ, List.getElem?_nil, or_false, List.nodup_nil, List.nodup_cons, not_false_eq_true, vMut, kdL, appP, extP, popP, insP, vUpd, owD, kdD, vStore, vGet1, vGet2, isDP, vPNil, vPCons, vDisp, vMeth, InsR, vProp, InsQ, vFld, putP, vFldS, vMake, vMakeN, slotsOf_nil, slotsOf_cons, vdel, endsV, endsL, resS, Option.isSome_some, reduceIte, Option.bind_some, true_and, and_true, Nat.reduceEqDiff, Nat.one_ne_zero, Nat.zero_ne_one, not_true_eq_false, false_and, and_false, if_true, if_false, Nat.zero_add, Nat.add_zero, kP, v1]
      refine ⟨_, rfl, ⟨s, rfl, hn⟩, ?_⟩
      have hg : dgetP kvs (.inr s) = some (.int i) := dget_mem hs.nd hc
      simp only [vItems, Vl.pairP, vIndex, isLP, sortP, ssetP, int2P, joinP, vScr, vCallW, permL, List.filterMap_cons, List.filterMap_nil, vVar, vC, vNil, vCons, fz, vOp, vB, vAnd, vOr, vNot, vAndV, vOrV, vNotV, vIf, bP, vChain, vCB, rdL, vTup, vLst, tkL, vDict0, vNo, vSome, slP, vSl, vRev, vNeg, vIsi2, rd, giv, Vl.tk, vset_ap, eqB, neB, ordB, isB, isNonP, inB, Vl.addP, intP, mulP, ixP, lenP, absP, intCP, listP, tupP, dictP, isiP, tyP, keyP, vNext, vDrop, vRet, vRetN, vIfS, vBreak, vCont, vSet, vAsg, fvN, fvNil, fvCons, fvT, vPar, vIt, itP, vRg1, vRg2, vEnum, vZip, vFor, vForD, vdV, vdF, vLc, vLcD, vYes, vDc, vCall, vCallN, vApp, argV, slA, argS, Vl.cellOf, backV, conS, List.map_nil, List.map_cons, List.append_nil, List.cons_append, List.nil_append, List.length_cons, List.length_nil, List.mem_cons, List.not_mem_nil, List.getElem?_cons_zero, List.getElem?_cons_succ, List.getElem?_nil, or_false, List.nodup_nil, List.nodup_cons, not_false_eq_true, vMut, kdL, appP, extP, popP, insP, vUpd, owD, kdD, vStore, vGet1, vGet2, isDP, vPNil, vPCons, vDisp, vMeth, InsR, vProp, InsQ, vFld, putP, vFldS, vMake, vMakeN, slotsOf_nil, slotsOf_cons, vdel, endsV, endsL, resS, Option.isSome_some, reduceIte, Option.bind_some, true_and, and_true, Nat.reduceEqDiff, Nat.one_ne_zero, Nat.zero_ne_one, not_true_eq_false, false_and, and_false, if_true, if_false, Nat.zero_add, Nat.add_zero, h0, hg, Bool.not_true, Bool.false_eq_true, if_false, backV]
      refine ⟨_, rfl, ⟨i, rfl, hi⟩, ?_⟩
      exact hA rfl _ fun i hi => out1 i hi
    · simp only [flt_none, List.map_nil, vItems, Vl.pairP, vIndex, isLP, sortP, ssetP, int2P, joinP, vScr, vCallW, permL, List.filterMap_cons, List.filterMap_nil, vVar, vC, vNil, vCons, fz, vOp, vB, vAnd, vOr, vNot, vAndV, vOrV, vNotV, vIf, bP, vChain, vCB, rdL, vTup, vLst, tkL, vDict0, vNo, vSome, slP, vSl, vRev, vNeg, vIsi2, rd, giv, Vl.tk, vset_ap, eqB, neB, ordB, isB, isNonP, inB, Vl.addP, intP, mulP, ixP, lenP, absP, intCP, listP, tupP, dictP, isiP, tyP, keyP, vNext, vDrop, vRet, vRetN, vIfS, vBreak, vCont, vSet, vAsg, fvN, fvNil, fvCons, fvT, vPar, vIt, itP, vRg1, vRg2, vEnum, vZip, vFor, vForD, vdV, vdF, vLc, vLcD, vYes, vDc, vCall, vCallN, vApp, argV, slA, argS, Vl.cellOf, backV, conS, List.map_nil, List.map_cons, List.append_nil, List.cons_append, List.nil_append, List.length_cons, List.length_nil, List.mem_cons, List.not_mem_nil, List.getElem?_cons_zero, List.getElem?_cons_succ, List.getElem?_nil, or_false, List.nodup_nil, List.nodup_cons, not_false_eq_true, vMut, kdL, appP, extP, popP, insP, vUpd, owD, kdD, vStore, vGet1, vGet2, isDP, vPNil, vPCons, vDisp, vMeth, InsR, vProp, InsQ, vFld, putP, vFldS, vMake, vMakeN, slotsOf_nil, slotsOf_cons, vdel, endsV, endsL, resS, Option.isSome_some, reduceIte, Option.bind_some, true_and, and_true, Nat.reduceEqDiff, Nat.one_ne_zero, Nat.zero_ne_one, not_true_eq_false, false_and, and_false, if_true, if_false, Nat.zero_add, Nat.add_zero]
      refine ⟨zr (by decide), cmp_nil (fun p hp => by cases hp), ?_⟩
      simp only [decide_true, res_nil]
      exact q
theorem sc_need_layout : FnScope ["value"] ["value"] (defScope (top 14)) := ⟨rfl, rfl, rfl, by decide +kernel, rfl, by decide +kernel, by decide +kernel⟩

theorem kv_need_layout (V : Env K mg) : KnV P w K mg base 4 "need_layout" 1 [] (v1 (fun p => ∃ kvs, p = .dic kvs ∧ LayP kvs) fun _ => .non) := by
  refine knv_of (io := []) V.d_need_layout sc_need_layout rfl (by decide) fun f cdv A outer s H E en hr => ⟨_, (evss_one (evs_if (evt_not (evt_val (ev_call (fun _ => .nil) (fun _ h => e_kn (kv_is_layout V) (hr.mono (by decide)) h) (eva_cons (ev_var (e_var 0)) eva_nil)))) (evss_one evs_never) evss_nil)), ?_⟩
  rintro σ Ψ ΨE ⟨p, h0, ⟨kvs, rfl, hs⟩, q⟩
  simp only [vItems, Vl.pairP, vIndex, isLP, sortP, ssetP, int2P, joinP, vScr, vCallW, permL, List.filterMap_cons, List.filterMap_nil, vVar, vC, vNil, vCons, fz, vOp, vB, vAnd, vOr, vNot, vAndV, vOrV, vNotV, vIf, bP, vChain, vCB, rdL, vTup, vLst, tkL, vDict0, vNo, vSome, slP, vSl, vRev, vNeg, vIsi2, rd, giv, Vl.tk, vset_ap, eqB, neB, ordB, isB, isNonP, inB, Vl.addP, intP, mulP, ixP, lenP, absP, intCP, listP, tupP, dictP, isiP, tyP, keyP, vNext, vDrop, vRet, vRetN, vIfS, vBreak, vCont, vSet, vAsg, fvN, fvNil, fvCons, fvT, vPar, vIt, itP, vRg1, vRg2, vEnum, vZip, vFor, vForD, vdV, vdF, vLc, vLcD, vYes, vDc, vCall, vCallN, vApp, argV, slA, argS, Vl.cellOf, backV, conS, List.map_nil, List.map_cons, List.append_nil, List.cons_append, List.nil_append, List.length_cons, List.length_nil, List.mem_cons, List.not_mem_nil, List.getElem?_cons_zero, List.getElem?_cons_succ, List.getElem?_nil, or_false, List.nodup_nil, List.nodup_cons, not_false_eq_true, vMut, kdL, appP, extP, popP, insP, vUpd, owD, kdD, vStore, vGet1, vGet2, isDP, vPNil, vPCons, vDisp, vMeth, InsR, vProp, InsQ, vFld, putP, vFldS, vMake, vMakeN, slotsOf_nil, slotsOf_cons, vdel, endsV, endsL, resS, Option.isSome_some, reduceIte, Option.bind_some, true_and, and_true, Nat.reduceEqDiff, Nat.one_ne_zero, Nat.zero_ne_one, not_true_eq_false, false_and, and_false, if_true, if_false, Nat.zero_add, Nat.add_zero, h0, v1]
  refine ⟨_, rfl, ⟨kvs, rfl, hs⟩, ?_⟩
  simp only [Bool.not_true, Bool.false_eq_true, if_false, res_nil]
  exact q
def vNeedBlock : SpV := fun σ Ψ _ => ∃ kvs s, σ 0 = some (.fr (.dic kvs)) ∧ LayP kvs ∧ σ 1 = some (.fr (.str s)) ∧ (.inr s : Key) ∈ kvs.map (·.1) ∧ Ψ (.fr .non) nilS
theorem sc_need_block : FnScope ["layout", "value"] ["layout", "value"] (defScope (top 15)) := ⟨rfl, rfl, rfl, by decide +kernel, rfl, by decide +kernel, by decide +kernel⟩

theorem kv_need_block (V : Env K mg) : KnV P w K mg base 1 "need_block" 2 [] vNeedBlock := by
  refine knv_of (io := []) V.d_need_block sc_need_block rfl (by decide) fun f cdv A outer s H E en hr => ⟨_, (evss_one (evs_if (evt_w (evw_or (evt_not (evt_val (ev_cb (fun _ h => b_isiE V.b_isinstance h) cv_isi (eva_cons (ev_var (e_var 1)) (eva_cons (ev_c (e_ty rfl V.b_str rfl) (fun _ => .ty _)) eva_nil))))) (evw_or1 (evt_op (fun _ _ h k => et_cmp (o_notin hr.u65) h k) ob_in.v (ev_var (e_var 1)) (ev_var (e_var 0)))))) (evss_one evs_never) evss_nil)), ?_⟩
  rintro σ Ψ ΨE ⟨kvs, s, h0, hs, h1, hm, q⟩
  simp only [vItems, Vl.pairP, vIndex, isLP, sortP, ssetP, int2P, joinP, vScr, vCallW, permL, List.filterMap_cons, List.filterMap_nil, vVar, vC, vNil, vCons, fz, vOp, vB, vAnd, vOr, vNot, vAndV, vOrV, vNotV, vIf, bP, vChain, vCB, rdL, vTup, vLst, tkL, vDict0, vNo, vSome, slP, vSl, vRev, vNeg, vIsi2, rd, giv, Vl.tk, vset_ap, eqB, neB, ordB, isB, isNonP, inB, Vl.addP, intP, mulP, ixP, lenP, absP, intCP, listP, tupP, dictP, isiP, tyP, keyP, vNext, vDrop, vRet, vRetN, vIfS, vBreak, vCont, vSet, vAsg, fvN, fvNil, fvCons, fvT, vPar, vIt, itP, vRg1, vRg2, vEnum, vZip, vFor, vForD, vdV, vdF, vLc, vLcD, vYes, vDc, vCall, vCallN, vApp, argV, slA, argS, Vl.cellOf, backV, conS, List.map_nil, List.map_cons, List.append_nil, List.cons_append, List.nil_append, List.length_cons, List.length_nil, List.mem_cons, List.not_mem_nil, List.getElem?_cons_zero, List.getElem?_cons_succ, List.getElem?_nil, or_false, List.nodup_nil, List.nodup_cons, not_false_eq_true, vMut, kdL, appP, extP, popP, insP, vUpd, owD, kdD, vStore, vGet1, vGet2, isDP, vPNil, vPCons, vDisp, vMeth, InsR, vProp, InsQ, vFld, putP, vFldS, vMake, vMakeN, slotsOf_nil, slotsOf_cons, vdel, endsV, endsL, resS, Option.isSome_some, reduceIte, Option.bind_some, true_and, and_true, Nat.reduceEqDiff, Nat.one_ne_zero, Nat.zero_ne_one, not_true_eq_false, false_and, and_false, if_true, if_false, Nat.zero_add, Nat.add_zero, h0, h1]
  simp only [sub_same, Bool.not_true, Bool.false_eq_true, if_false]
  refine ⟨ty_str, ?_⟩
  obtain ⟨v, e, _⟩ := dget_some hm
  simp only [e, Option.isSome_some, Bool.not_true, Bool.false_eq_true, if_false, res_nil]
  exact q

end K17
namespace K17
open PySem PySem.Spec PyProof.Rows L2 Dv Vl
variable {P : Program} {w : World} {K : Fr0} {mg : Str → Option Value} {base : Heap}
/-! ### texts in order, each once -/
abbrev ltS (a b : Str) : Prop := a.cps.toList < b.cps.toList
def SS (l : List Str) : Prop := l.Pairwise ltS
theorem ltS_irrefl (a : Str) : ¬ ltS a a := List.lt_irrefl _
theorem ltS_trans {a b c : Str} (h : ltS a b) (k : ltS b c) : ltS a c := List.lt_trans h k
theorem str_ext {a b : Str} (h : a.cps.toList = b.cps.toList) : a = b := by
  cases a; cases b
  simp only at h
  rw [Array.toList_inj.mp h]
theorem ltS_or {a b : Str} (h : ¬ ltS b a) (k : a ≠ b) : ltS a b := by
  have h1 : a.cps.toList ≤ b.cps.toList := List.not_lt.mp h
  rcases List.le_iff_lt_or_eq.mp h1 with z | z
  · exact z
  · exact absurd (str_ext z) k
theorem rising_ss : ∀ (l : List Str) (p : Str), PyProof.Rows.risingS p l = true → (p :: l).Nodup → SS (p :: l)
  | [], p, _, _ => List.pairwise_singleton _ _
  | x :: l, p, h, nd => by
    simp only [PyProof.Rows.risingS, Bool.and_eq_true, Bool.not_eq_true'] at h
    have ih := rising_ss l x h.2 (List.nodup_cons.mp nd).2
    have hx : ltS p x := ltS_or (fun z => by
      have := h.1
      rw [PyProof.Rows.ltCps_eq, decide_eq_false_iff_not] at this
      exact this z) fun z => (List.nodup_cons.mp nd).1 (by rw [z]; exact List.mem_cons_self)
    refine List.pairwise_cons.mpr ⟨fun y hy => ?_, ih⟩
    rcases List.mem_cons.mp hy with z | z
    · rw [z]; exact hx
    · exact ltS_trans hx (List.rel_of_pairwise_cons ih z)
theorem ss_of {l : List Str} (h : PyProof.Rows.sortedS l = true) (nd : l.Nodup) : SS l := by
  cases l with
  | nil => exact .nil
  | cons p l => exact rising_ss l p h nd
/-- two such lists of the same members are one -/
theorem ss_ext : ∀ {l m : List Str}, SS l → SS m → (∀ y, y ∈ l ↔ y ∈ m) → l = m
  | [], [], _, _, _ => rfl
  | [], y :: _, _, _, h => absurd ((h y).mpr List.mem_cons_self) (by simp)
  | x :: _, [], _, _, h => absurd ((h x).mp List.mem_cons_self) (by simp)
  | x :: l, y :: m, a, b, h => by
    have hxy : x = y := by
      rcases List.mem_cons.mp ((h x).mp List.mem_cons_self) with z | z
      · exact z
      · rcases List.mem_cons.mp ((h y).mpr List.mem_cons_self) with z2 | z2
        · exact z2.symm
        · exact absurd (ltS_trans (List.rel_of_pairwise_cons a z2) (List.rel_of_pairwise_cons b z)) (ltS_irrefl _)
    subst hxy
    have nx : x ∉ l := fun z => ltS_irrefl x (List.rel_of_pairwise_cons a z)
    have ny : x ∉ m := fun z => ltS_irrefl x (List.rel_of_pairwise_cons b z)
    rw [ss_ext (List.pairwise_cons.mp a).2 (List.pairwise_cons.mp b).2 fun y => ?_]
    constructor
    · intro z
      rcases List.mem_cons.mp ((h y).mp (List.mem_cons_of_mem _ z)) with e | e
      · exact absurd (e ▸ z) nx
      · exact e
    · intro z
      rcases List.mem_cons.mp ((h y).mpr (List.mem_cons_of_mem _ z)) with e | e
      · exact absurd (e ▸ z) ny
      · exact e
def insS (x : Str) : List Str → List Str
  | [] => [x]
  | y :: l => if x = y then y :: l else if ltS x y then x :: y :: l else y :: insS x l
theorem ins_mem (x : Str) : ∀ (l : List Str) (z : Str), z ∈ insS x l ↔ z = x ∨ z ∈ l
  | [], z => by simp [insS]
  | y :: l, z => by
    unfold insS
    split
    · rename_i e; subst e; simp
    · split
      · simp
      · simp only [List.mem_cons, ins_mem x l z]
        constructor
        · rintro (h | h | h)
          · exact .inr (.inl h)
          · exact .inl h
          · exact .inr (.inr h)
        · rintro (h | h | h)
          · exact .inr (.inl h)
          · exact .inl h
          · exact .inr (.inr h)
theorem ins_ss (x : Str) : ∀ {l : List Str}, SS l → SS (insS x l)
  | [], _ => List.pairwise_singleton _ _
  | y :: l, h => by
    unfold insS
    split
    · exact h
    · rename_i ne
      split
      · rename_i lt
        refine List.pairwise_cons.mpr ⟨fun z hz => ?_, h⟩
        rcases List.mem_cons.mp hz with e | e
        · rw [e]; exact lt
        · exact ltS_trans lt (List.rel_of_pairwise_cons h e)
      · rename_i nlt
        refine List.pairwise_cons.mpr ⟨fun z hz => ?_, ins_ss x (List.pairwise_cons.mp h).2⟩
        rcases (ins_mem x l z).mp hz with e | e
        · rw [e]; exact ltS_or nlt (Ne.symm ne)
        · exact List.rel_of_pairwise_cons h e
/-- sorted(set(l)) -/
def srt (l : List Str) : List Str := l.foldr insS []
theorem srt_ss : ∀ l : List Str, SS (srt l)
  | [] => .nil
  | x :: l => ins_ss x (srt_ss l)
theorem srt_mem : ∀ (l : List Str) (z : Str), z ∈ srt l ↔ z ∈ l
  | [], z => by simp [srt]
  | x :: l, z => by
    show z ∈ insS x (srt l) ↔ _
    rw [ins_mem, srt_mem l z, List.mem_cons]
theorem srt_of {l ys : List Str} (h : PyProof.Rows.sortedS ys = true) (nd : ys.Nodup) (m : ∀ y, y ∈ ys ↔ y ∈ l) : ys = srt l := ss_ext (ss_of h nd) (srt_ss l) fun y => by rw [m, srt_mem]
theorem srt_same {l : List Str} (h : SS l) : srt l = l := ss_ext (srt_ss l) h fun y => srt_mem l y
theorem ss_nodup {l : List Str} (h : SS l) : l.Nodup := by
  unfold List.Nodup
  exact List.Pairwise.imp (fun {a b} (h : ltS a b) (z : a = b) => ltS_irrefl a (by rw [← z] at h; exact h)) h

/-! ### elements -/
structure El where
  seen : Bool
  oth : List Str
/-- an element as a value -/
def elV (e : El) : PV := .tup [.bl e.seen, .tup (e.oth.map PV.str)]
/-- names in order, not too many -/
structure ElOk (n : Nat) (e : El) : Prop where
  ss : SS e.oth
  nm : ∀ s ∈ e.oth, NameS s
  len : e.oth.length ≤ n
def tms (a b : El) : El := if b.seen = true then b else ⟨a.seen, srt (a.oth ++ b.oth)⟩
def nothing : El := ⟨false, []⟩
theorem tms_nothing {n : Nat} {a : El} (h : ElOk n a) : tms a nothing = a := by
  cases a
  simp [tms, nothing, srt_same h.ss]
theorem nothing_tms {n : Nat} {a : El} (h : ElOk n a) : tms nothing a = a := by
  obtain ⟨b, l⟩ := a
  cases b
  · simp [tms, nothing, srt_same h.ss]
  · simp [tms]
theorem tms_self {n : Nat} {a : El} (h : ElOk n a) : tms a a = a := by
  obtain ⟨b, l⟩ := a
  cases b
  · have : srt (l ++ l) = l := ss_ext (srt_ss _) h.ss fun y => by rw [srt_mem]; simp
    simp [tms, this]
  · simp [tms]
theorem tms_assoc (a b c : El) : tms (tms a b) c = tms a (tms b c) := by
  obtain ⟨x, l⟩ := a
  obtain ⟨y, m⟩ := b
  obtain ⟨z, k⟩ := c
  cases z
  · cases y
    · have : srt (srt (l ++ m) ++ k) = srt (l ++ srt (m ++ k)) := ss_ext (srt_ss _) (srt_ss _) fun y => by simp only [srt_mem, List.mem_append, or_assoc]
      simp [tms, this]
    · simp [tms]
  · simp [tms]
theorem srt_len (l : List Str) : (srt l).length ≤ l.length := by
  induction l with
  | nil => exact Nat.le_refl _
  | cons x l ih =>
    have : ∀ m : List Str, (insS x m).length ≤ m.length + 1 := by
      intro m
      induction m with
      | nil => exact Nat.le_refl _
      | cons y m ih =>
        unfold insS
        split
        · exact Nat.le_succ _
        · split
          · exact Nat.le_refl _
          · simp only [List.length_cons]; omega
    exact Nat.le_trans (this _) (Nat.succ_le_succ ih)
theorem tms_ok {n m : Nat} {a b : El} (h : ElOk n a) (k : ElOk m b) : ElOk (n + m) (tms a b) := by
  unfold tms
  split
  · exact ⟨k.ss, k.nm, Nat.le_trans k.len (Nat.le_add_left _ _)⟩
  · refine ⟨srt_ss _, fun s hs => ?_, ?_⟩
    · rcases List.mem_append.mp ((srt_mem _ _).mp hs) with z | z
      · exact h.nm s z
      · exact k.nm s z
    · refine Nat.le_trans (srt_len _) ?_
      rw [List.length_append]
      exact Nat.add_le_add h.len k.len
/-! ### the defs over elements -/
theorem name_ok {s : Str} (h : NameS s) : PyData.strOk s = true := by
  have hl : ∀ c ∈ letters.cps.toList, c < 0x110000 := by decide +kernel
  unfold PyData.strOk
  rw [← Array.all_toList, List.all_eq_true]
  exact fun c hc => decide_eq_true (hl c (h.2 c hc))
theorem at2_0 {x y : PV} : atI [x, y] 0 = some x := rfl
theorem at2_1 {x y : PV} : atI [x, y] 1 = some y := rfl
theorem cut_tl {xs : List PV} : cut xs (some 1) none = xs.drop 1 := cut_from xs 1
theorem cmp_i {i j : Int} : Cmp (.int i) (.int j) := .inl rfl
theorem zip_len (xs ys : List PV) : (zipP xs ys).length ≤ xs.length := by
  unfold zipP
  rw [List.length_map, List.length_zip]
  exact Nat.min_le_left _ _
theorem zip_ss : ∀ {l : List Str}, SS l → ∀ x ∈ zipP (l.map PV.str) ((l.map PV.str).drop 1), ∃ a b, x = .tup [.str a, .str b] ∧ ltS a b
  | [], _, x, h => by simp [zipP] at h
  | [a], _, x, h => by simp [zipP] at h
  | a :: b :: l, s, x, h => by
    have e : zipP ((a :: b :: l).map PV.str) (((a :: b :: l).map PV.str).drop 1) = .tup [.str a, .str b] :: zipP ((b :: l).map PV.str) (((b :: l).map PV.str).drop 1) := by simp [zipP]
    rw [e] at h
    rcases List.mem_cons.mp h with z | z
    · exact ⟨a, b, z, List.rel_of_pairwise_cons s List.mem_cons_self⟩
    · exact zip_ss (List.pairwise_cons.mp s).2 x z
theorem ty_tuple' : "tuple" ∈ tysS := by decide
theorem sc_is_element : FnScope ["value", "others", "one", "other"] ["value"] (defScope (top 20)) := ⟨rfl, rfl, rfl, by decide +kernel, rfl, by decide +kernel, by decide +kernel⟩

theorem kv_is_element (V : Env K mg) : KnV P w K mg base 2 "is_element" 1 [] (v1 (fun p => ∃ e, p = elV e ∧ ElOk 500 e) fun _ => .bl true) := by
  refine knv_of (io := []) V.d_is_element sc_is_element rfl (by decide) fun f cdv A outer s H E en hr => ⟨_, (evss_cons (evs_if (evt_w (evw_or (evt_not (evt_val (ev_cb (fun _ h => b_isiE V.b_isinstance h) cv_isi (eva_cons (ev_var (e_var 0)) (eva_cons (ev_c (e_ty rfl V.b_tuple rfl) (fun _ => .ty _)) eva_nil))))) (evw_or (evt_op (fun _ _ h k => et_cmp (o_ne hr.u64) h k) ob_ne.v (ev_cb (fun _ h => b_lenE V.b_len h) cv_len (eva_cons (ev_var (e_var 0)) eva_nil)) ev_int) (evw_or1 (evt_not (evt_val (ev_cb (fun _ h => b_isiE V.b_isinstance h) cv_isi (eva_cons (ev_op (fun _ _ h k => e_ix hr.u1 h k (fun _ _ => rfl)) ov_ix (ev_var (e_var 0)) ev_int) (eva_cons (ev_c (e_ty rfl V.b_bool rfl) (fun _ => .ty _)) eva_nil))))))))) (evss_one (evs_ret ev_bl)) evss_nil) (evss_cons (evs_set (j := 1) sc_is_element.nd rfl (by first | exact .inl rfl | exact .inr rfl) (ev_op (fun _ _ h k => e_ix hr.u1 h k (fun _ _ => rfl)) ov_ix (ev_var (e_var 0)) ev_int)) (evss_cons (evs_if (evt_w (evw_or (evt_not (evt_val (ev_cb (fun _ h => b_isiE V.b_isinstance h) cv_isi (eva_cons (ev_var (e_var 1)) (eva_cons (ev_c (e_ty rfl V.b_tuple rfl) (fun _ => .ty _)) eva_nil))))) (evw_or1 (evt_op (fun _ _ h k => et_cmp (o_ne hr.u64) h k) ob_ne.v (ev_lc [("one", 2)] sc_is_element.nd (evi_val (ev_var (e_var 1))) (fun _ _ _ _ _ => (gv_name (j := 2) sc_is_element.nd rfl (by first | exact .inl rfl | exact .inr rfl))) (fun _ _ _ _ _ => (evts_one (evt_not (evt_val (ev_call (fun _ => .nil) (fun _ h => e_kn (kv_is_name V) (hr.mono (by decide)) h) (eva_cons (ev_var (e_var 2)) eva_nil)))))) (fun _ _ _ _ _ => (ev_var (e_var 2))) only_name) (ev_lst eva_nil))))) (evss_one (evs_ret ev_bl)) evss_nil) (evss_one (evs_ret (ev_op (fun _ _ h k => e_cmp (o_eq hr.u64) h k) ob_eq.v (ev_lc [("one", 2), ("other", 3)] sc_is_element.nd (evi_zip (fun _ h => i_zip rfl V.b_zip h) (eva_cons (ev_var (e_var 1)) (eva_cons (ev_slice (ev_var (e_var 1)) (evo_some ev_int) evo_none) eva_nil))) (fun _ _ _ _ _ => (gv_tup (n := 2) rfl (gvs_cons (gv_name (j := 2) sc_is_element.nd rfl (by first | exact .inl rfl | exact .inr rfl)) (gvs_cons (gv_name (j := 3) sc_is_element.nd rfl (by first | exact .inl rfl | exact .inr rfl)) gvs_nil)))) (fun _ _ _ _ _ => (evts_one (evt_op (fun _ _ h k => et_cmp o_ge h k) ob_ord.v (ev_var (e_var 2)) (ev_var (e_var 3))))) (fun _ _ _ _ _ => (ev_var (e_var 2))) (only_tup (only_cons only_name (only_cons only_name only_nil)))) (ev_lst eva_nil))))))), ?_⟩
  rintro σ Ψ ΨE ⟨p, h0, ⟨⟨b, l⟩, rfl, hs⟩, q⟩
  have hl : l.length ≤ 500 := hs.len
  refine vsq1 (σ1 := σ) (fun R hR => ?_) ?_
  · simp only [vItems, Vl.pairP, vIndex, isLP, sortP, ssetP, int2P, joinP, vScr, vCallW, permL, List.filterMap_cons, List.filterMap_nil, vVar, vC, vNil, vCons, fz, vOp, vB, vAnd, vOr, vNot, vAndV, vOrV, vNotV, vIf, bP, vChain, vCB, rdL, vTup, vLst, tkL, vDict0, vNo, vSome, slP, vSl, vRev, vNeg, vIsi2, rd, giv, Vl.tk, vset_ap, eqB, neB, ordB, isB, isNonP, inB, Vl.addP, intP, mulP, ixP, lenP, absP, intCP, listP, tupP, dictP, isiP, tyP, keyP, vNext, vDrop, vRet, vRetN, vIfS, vBreak, vCont, vSet, vAsg, fvN, fvNil, fvCons, fvT, vPar, vIt, itP, vRg1, vRg2, vEnum, vZip, vFor, vForD, vdV, vdF, vLc, vLcD, vYes, vDc, vCall, vCallN, vApp, argV, slA, argS, Vl.cellOf, backV, conS, List.map_nil, List.map_cons, List.append_nil, List.cons_append, List.nil_append, List.length_cons, List.length_nil, List.mem_cons, List.not_mem_nil, List.getElem?_cons_zero, List.getElem?_cons_succ, List.getElem?_nil, or_false, List.nodup_nil, List.nodup_cons, not_false_eq_true, vMut, kdL, appP, extP, popP, insP, vUpd, owD, kdD, vStore, vGet1, vGet2, isDP, vPNil, vPCons, vDisp, vMeth, InsR, vProp, InsQ, vFld, putP, vFldS, vMake, vMakeN, slotsOf_nil, slotsOf_cons, vdel, endsV, endsL, resS, Option.isSome_some, reduceIte, Option.bind_some, true_and, and_true, Nat.reduceEqDiff, Nat.one_ne_zero, Nat.zero_ne_one, not_true_eq_false, false_and, and_false, if_true, if_false, Nat.zero_add, Nat.add_zero, h0, elV, sub_same, Bool.not_true, at2_0]
    refine ⟨ty_tuple, ?_⟩
    simp only [Bool.false_eq_true, if_false]
    refine ⟨cmp_i, ?_⟩
    simp only [show ((1 + 1 : Nat) : Int) = 2 from rfl, decide_true, Bool.not_true, Bool.false_eq_true, if_false]
    exact ⟨ty_bool, hR⟩
  · refine vsq1 (σ1 := vset σ 1 (some (.fr (.tup (l.map PV.str))))) (fun R hR => ?_) ?_
    · simp only [vItems, Vl.pairP, vIndex, isLP, sortP, ssetP, int2P, joinP, vScr, vCallW, permL, List.filterMap_cons, List.filterMap_nil, vVar, vC, vNil, vCons, fz, vOp, vB, vAnd, vOr, vNot, vAndV, vOrV, vNotV, vIf, bP, vChain, vCB, rdL, vTup, vLst, tkL, vDict0, vNo, vSome, slP, vSl, vRev, vNeg, vIsi2, rd, giv, Vl.tk, vset_ap, eqB, neB, ordB, isB, isNonP, inB, Vl.addP, intP, mulP, ixP, lenP, absP, intCP, listP, tupP, dictP, isiP, tyP, keyP, vNext, vDrop, vRet, vRetN, vIfS, vBreak, vCont, vSet, vAsg, fvN, fvNil, fvCons, fvT, vPar, vIt, itP, vRg1, vRg2, vEnum, vZip, vFor, vForD, vdV, vdF, vLc, vLcD, vYes, vDc, vCall, vCallN, vApp, argV, slA, argS, Vl.cellOf, backV, conS, List.map_nil, List.map_cons, List.append_nil, List.cons_append, List.nil_append, List.length_cons, List.length_nil, List.mem_cons, List.not_mem_nil, List.getElem?_cons_zero, List.getElem?_cons_succ, List.getElem?_nil, or_false, List.nodup_nil, List.nodup_cons, not_false_eq_true, vMut, kdL, appP, extP, popP, insP, vUpd, owD, kdD, vStore, vGet1, vGet2, isDP, vPNil, vPCons, vDisp, vMeth, InsR, vProp, InsQ, vFld, putP, vFldS, vMake, vMakeN, slotsOf_nil, slotsOf_cons, vdel, endsV, endsL, resS, Option.isSome_some, reduceIte, Option.bind_some, true_and, and_true, Nat.reduceEqDiff, Nat.one_ne_zero, Nat.zero_ne_one, not_true_eq_false, false_and, and_false, if_true, if_false, Nat.zero_add, Nat.add_zero, h0, elV, at2_1]
      exact hR
    · refine vsq (M := fun τ => τ 1 = some (.fr (.tup (l.map PV.str)))) (fun τ ht => ?_) fun R hR => ?_
      rotate_left
      · simp only [vItems, Vl.pairP, vIndex, isLP, sortP, ssetP, int2P, joinP, vScr, vCallW, permL, List.filterMap_cons, List.filterMap_nil, vVar, vC, vNil, vCons, fz, vOp, vB, vAnd, vOr, vNot, vAndV, vOrV, vNotV, vIf, bP, vChain, vCB, rdL, vTup, vLst, tkL, vDict0, vNo, vSome, slP, vSl, vRev, vNeg, vIsi2, rd, giv, Vl.tk, vset_ap, eqB, neB, ordB, isB, isNonP, inB, Vl.addP, intP, mulP, ixP, lenP, absP, intCP, listP, tupP, dictP, isiP, tyP, keyP, vNext, vDrop, vRet, vRetN, vIfS, vBreak, vCont, vSet, vAsg, fvN, fvNil, fvCons, fvT, vPar, vIt, itP, vRg1, vRg2, vEnum, vZip, vFor, vForD, vdV, vdF, vLc, vLcD, vYes, vDc, vCall, vCallN, vApp, argV, slA, argS, Vl.cellOf, backV, conS, List.map_nil, List.map_cons, List.append_nil, List.cons_append, List.nil_append, List.length_cons, List.length_nil, List.mem_cons, List.not_mem_nil, List.getElem?_cons_zero, List.getElem?_cons_succ, List.getElem?_nil, or_false, List.nodup_nil, List.nodup_cons, not_false_eq_true, vMut, kdL, appP, extP, popP, insP, vUpd, owD, kdD, vStore, vGet1, vGet2, isDP, vPNil, vPCons, vDisp, vMeth, InsR, vProp, InsQ, vFld, putP, vFldS, vMake, vMakeN, slotsOf_nil, slotsOf_cons, vdel, endsV, endsL, resS, Option.isSome_some, reduceIte, Option.bind_some, true_and, and_true, Nat.reduceEqDiff, Nat.one_ne_zero, Nat.zero_ne_one, not_true_eq_false, false_and, and_false, if_true, if_false, Nat.zero_add, Nat.add_zero, h0, sub_same, Bool.not_true, Bool.false_eq_true, if_false]
        refine ⟨ty_tuple, lcV_pure (fun _ => false) id (zr (by rw [List.length_map]; omega)) (fun x hx => ?_) ?_⟩
        · obtain ⟨s, hc, rfl⟩ := List.mem_map.mp hx
          refine ⟨_, rfl, fun A B hA hB => ?_⟩
          simp only [vItems, Vl.pairP, vIndex, isLP, sortP, ssetP, int2P, joinP, vScr, vCallW, permL, List.filterMap_cons, List.filterMap_nil, vVar, vC, vNil, vCons, fz, vOp, vB, vAnd, vOr, vNot, vAndV, vOrV, vNotV, vIf, bP, vChain, vCB, rdL, vTup, vLst, tkL, vDict0, vNo, vSome, slP, vSl, vRev, vNeg, vIsi2, rd, giv, Vl.tk, vset_ap, eqB, neB, ordB, isB, isNonP, inB, Vl.addP, intP, mulP, ixP, lenP, absP, intCP, listP, tupP, dictP, isiP, tyP, keyP, vNext, vDrop, vRet, vRetN, vIfS, vBreak, vCont, vSet, vAsg, fvN, fvNil, fvCons, fvT, vPar, vIt, itP, vRg1, vRg2, vEnum, vZip, vFor, vForD, vdV, vdF, vLc, vLcD, vYes, vDc, vCall, vCallN, vApp, argV, slA, argS, Vl.cellOf, backV, conS, List.map_nil, List.map_cons, List.append_nil, List.cons_append, List.nil_append, List.length_cons, List.length_nil, List.mem_cons, List.not_mem_nil, List.getElem?_cons_zero, List.getElem?_cons_succ, List.getElem?_nil, or_false, List.nodup_nil, List.nodup_cons, not_false_eq_true, vMut, kdL, appP, extP, popP, insP, vUpd, owD, kdD, vStore, vGet1, vGet2, isDP, vPNil, vPCons, vDisp, vMeth, InsR, vProp, InsQ, vFld, putP, vFldS, vMake, vMakeN, slotsOf_nil, slotsOf_cons, vdel, endsV, endsL, resS, Option.isSome_some, reduceIte, Option.bind_some, true_and, and_true, Nat.reduceEqDiff, Nat.one_ne_zero, Nat.zero_ne_one, not_true_eq_false, false_and, and_false, if_true, if_false, Nat.zero_add, Nat.add_zero, v1]
          refine ⟨_, rfl, ⟨s, rfl, hs.nm s hc⟩, ?_⟩
          simp only [vItems, Vl.pairP, vIndex, isLP, sortP, ssetP, int2P, joinP, vScr, vCallW, permL, List.filterMap_cons, List.filterMap_nil, vVar, vC, vNil, vCons, fz, vOp, vB, vAnd, vOr, vNot, vAndV, vOrV, vNotV, vIf, bP, vChain, vCB, rdL, vTup, vLst, tkL, vDict0, vNo, vSome, slP, vSl, vRev, vNeg, vIsi2, rd, giv, Vl.tk, vset_ap, eqB, neB, ordB, isB, isNonP, inB, Vl.addP, intP, mulP, ixP, lenP, absP, intCP, listP, tupP, dictP, isiP, tyP, keyP, vNext, vDrop, vRet, vRetN, vIfS, vBreak, vCont, vSet, vAsg, fvN, fvNil, fvCons, fvT, vPar, vIt, itP, vRg1, vRg2, vEnum, vZip, vFor, vForD, vdV, vdF, vLc, vLcD, vYes, vDc, vCall, vCallN, vApp, argV, slA, argS, Vl.cellOf, backV, conS, List.map_nil, List.map_cons, List.append_nil, List.cons_append, List.nil_append, List.length_cons, List.length_nil, List.mem_cons, List.not_mem_nil, List.getElem?_cons_zero, List.getElem?_cons_succ, List.getElem?_nil, or_false, List.nodup_nil, List.nodup_cons, not_false_eq_true, vMut, kdL, appP, extP, popP, insP, vUpd, owD, kdD, vStore, vGet1, vGet2, isDP, vPNil, vPCons, vDisp, vMeth, InsR, vProp, InsQ, vFld, putP, vFldS, vMake, vMakeN, slotsOf_nil, slotsOf_cons, vdel, endsV, endsL, resS, Option.isSome_some, reduceIte, Option.bind_some, true_and, and_true, Nat.reduceEqDiff, Nat.one_ne_zero, Nat.zero_ne_one, not_true_eq_false, false_and, and_false, if_true, if_false, Nat.zero_add, Nat.add_zero, Bool.not_true, Bool.false_eq_true, if_false]
          exact hA rfl _ fun i hi => out1 i hi
        · simp only [flt_none, List.map_nil]
          refine ⟨zr (by decide), cmp_nil (fun p hp => by cases hp), ?_⟩
          simp only [decide_true, Bool.not_true, Bool.false_eq_true, if_false]
          exact hR _ rfl
      · simp only [vItems, Vl.pairP, vIndex, isLP, sortP, ssetP, int2P, joinP, vScr, vCallW, permL, List.filterMap_cons, List.filterMap_nil, vVar, vC, vNil, vCons, fz, vOp, vB, vAnd, vOr, vNot, vAndV, vOrV, vNotV, vIf, bP, vChain, vCB, rdL, vTup, vLst, tkL, vDict0, vNo, vSome, slP, vSl, vRev, vNeg, vIsi2, rd, giv, Vl.tk, vset_ap, eqB, neB, ordB, isB, isNonP, inB, Vl.addP, intP, mulP, ixP, lenP, absP, intCP, listP, tupP, dictP, isiP, tyP, keyP, vNext, vDrop, vRet, vRetN, vIfS, vBreak, vCont, vSet, vAsg, fvN, fvNil, fvCons, fvT, vPar, vIt, itP, vRg1, vRg2, vEnum, vZip, vFor, vForD, vdV, vdF, vLc, vLcD, vYes, vDc, vCall, vCallN, vApp, argV, slA, argS, Vl.cellOf, backV, conS, List.map_nil, List.map_cons, List.append_nil, List.cons_append, List.nil_append, List.length_cons, List.length_nil, List.mem_cons, List.not_mem_nil, List.getElem?_cons_zero, List.getElem?_cons_succ, List.getElem?_nil, or_false, List.nodup_nil, List.nodup_cons, not_false_eq_true, vMut, kdL, appP, extP, popP, insP, vUpd, owD, kdD, vStore, vGet1, vGet2, isDP, vPNil, vPCons, vDisp, vMeth, InsR, vProp, InsQ, vFld, putP, vFldS, vMake, vMakeN, slotsOf_nil, slotsOf_cons, vdel, endsV, endsL, resS, Option.isSome_some, reduceIte, Option.bind_some, true_and, and_true, Nat.reduceEqDiff, Nat.one_ne_zero, Nat.zero_ne_one, not_true_eq_false, false_and, and_false, if_true, if_false, Nat.zero_add, Nat.add_zero, ht, cut_tl]
        refine lcV_pure (fun _ => false) id (zr (by have := zip_len (l.map PV.str) ((l.map PV.str).drop 1); rw [List.length_map] at this; omega)) (fun x hx => ?_) ?_
        · obtain ⟨a, b, rfl, hab⟩ := zip_ss hs.ss x hx
          refine ⟨_, rfl, fun A B hA hB => ?_⟩
          simp only [vItems, Vl.pairP, vIndex, isLP, sortP, ssetP, int2P, joinP, vScr, vCallW, permL, List.filterMap_cons, List.filterMap_nil, vVar, vC, vNil, vCons, fz, vOp, vB, vAnd, vOr, vNot, vAndV, vOrV, vNotV, vIf, bP, vChain, vCB, rdL, vTup, vLst, tkL, vDict0, vNo, vSome, slP, vSl, vRev, vNeg, vIsi2, rd, giv, Vl.tk, vset_ap, eqB, neB, ordB, isB, isNonP, inB, Vl.addP, intP, mulP, ixP, lenP, absP, intCP, listP, tupP, dictP, isiP, tyP, keyP, vNext, vDrop, vRet, vRetN, vIfS, vBreak, vCont, vSet, vAsg, fvN, fvNil, fvCons, fvT, vPar, vIt, itP, vRg1, vRg2, vEnum, vZip, vFor, vForD, vdV, vdF, vLc, vLcD, vYes, vDc, vCall, vCallN, vApp, argV, slA, argS, Vl.cellOf, backV, conS, List.map_nil, List.map_cons, List.append_nil, List.cons_append, List.nil_append, List.length_cons, List.length_nil, List.mem_cons, List.not_mem_nil, List.getElem?_cons_zero, List.getElem?_cons_succ, List.getElem?_nil, or_false, List.nodup_nil, List.nodup_cons, not_false_eq_true, vMut, kdL, appP, extP, popP, insP, vUpd, owD, kdD, vStore, vGet1, vGet2, isDP, vPNil, vPCons, vDisp, vMeth, InsR, vProp, InsQ, vFld, putP, vFldS, vMake, vMakeN, slotsOf_nil, slotsOf_cons, vdel, endsV, endsL, resS, Option.isSome_some, reduceIte, Option.bind_some, true_and, and_true, Nat.reduceEqDiff, Nat.one_ne_zero, Nat.zero_ne_one, not_true_eq_false, false_and, and_false, if_true, if_false, Nat.zero_add, Nat.add_zero]
          simp only [show sLt a b = true from decide_eq_true hab, Bool.not_true, Bool.false_eq_true, if_false]
          refine hA rfl _ fun i hi => ?_
          have h2 : i ≠ 2 := fun z => hi (by rw [z]; simp)
          have h3 : i ≠ 3 := fun z => hi (by rw [z]; simp)
          simp [vset, h2, h3]
        · simp only [flt_none, List.map_nil]
          refine ⟨zr (by decide), cmp_nil (fun p hp => by cases hp), ?_⟩
          simp only [decide_true, res_nil]
          exact q

end K17
namespace K17
open PySem PySem.Spec PyProof.Rows L2 Dv Vl
variable {P : Program} {w : World} {K : Fr0} {mg : Str → Option Value} {base : Heap}
theorem sc_need_element : FnScope ["value"] ["value"] (defScope (top 21)) := ⟨rfl, rfl, rfl, by decide +kernel, rfl, by decide +kernel, by decide +kernel⟩
theorem kv_need_element (V : Env K mg) : KnV P w K mg base 3 "need_element" 1 [] (v1 (fun p => ∃ e, p = elV e ∧ ElOk 500 e) fun _ => .non) := by
  refine knv_of (io := []) V.d_need_element sc_need_element rfl (by decide) fun f cdv A outer s H E en hr => ⟨_, (evss_one (evs_if (evt_not (evt_val (ev_call (fun _ => .nil) (fun _ h => e_kn (kv_is_element V) (hr.mono (by decide)) h) (eva_cons (ev_var (e_var 0)) eva_nil)))) (evss_one evs_never) evss_nil)), ?_⟩
  rintro σ Ψ ΨE ⟨p, h0, ⟨e, rfl, hs⟩, q⟩
  simp only [vItems, Vl.pairP, vIndex, isLP, sortP, ssetP, int2P, joinP, vScr, vCallW, permL, List.filterMap_cons, List.filterMap_nil, vVar, vC, vNil, vCons, fz, vOp, vB, vAnd, vOr, vNot, vAndV, vOrV, vNotV, vIf, bP, vChain, vCB, rdL, vTup, vLst, tkL, vDict0, vNo, vSome, slP, vSl, vRev, vNeg, vIsi2, rd, giv, Vl.tk, vset_ap, eqB, neB, ordB, isB, isNonP, inB, Vl.addP, intP, mulP, ixP, lenP, absP, intCP, listP, tupP, dictP, isiP, tyP, keyP, vNext, vDrop, vRet, vRetN, vIfS, vBreak, vCont, vSet, vAsg, fvN, fvNil, fvCons, fvT, vPar, vIt, itP, vRg1, vRg2, vEnum, vZip, vFor, vForD, vdV, vdF, vLc, vLcD, vYes, vDc, vCall, vCallN, vApp, argV, slA, argS, Vl.cellOf, backV, conS, List.map_nil, List.map_cons, List.append_nil, List.cons_append, List.nil_append, List.length_cons, List.length_nil, List.mem_cons, List.not_mem_nil, List.getElem?_cons_zero, List.getElem?_cons_succ, List.getElem?_nil, or_false, List.nodup_nil, List.nodup_cons, not_false_eq_true, vMut, kdL, appP, extP, popP, insP, vUpd, owD, kdD, vStore, vGet1, vGet2, isDP, vPNil, vPCons, vDisp, vMeth, InsR, vProp, InsQ, vFld, putP, vFldS, vMake, vMakeN, slotsOf_nil, slotsOf_cons, vdel, endsV, endsL, resS, Option.isSome_some, reduceIte, Option.bind_some, true_and, and_true, Nat.reduceEqDiff, Nat.one_ne_zero, Nat.zero_ne_one, not_true_eq_false, false_and, and_false, if_true, if_false, Nat.zero_add, Nat.add_zero, h0, v1]
  refine ⟨_, rfl, ⟨e, rfl, hs⟩, ?_⟩
  simp only [Bool.not_true, Bool.false_eq_true, if_false, res_nil]
  exact q
def vTms : SpV := fun σ Ψ _ => ∃ a b, σ 0 = some (.fr (elV a)) ∧ σ 1 = some (.fr (elV b)) ∧ ElOk 500 a ∧ ElOk 500 b ∧ Ψ (.fr (elV (tms a b))) nilS
theorem sc_times : FnScope ["one", "other"] ["one", "other"] (defScope (top 22)) := ⟨rfl, rfl, rfl, by decide +kernel, rfl, by decide +kernel, by decide +kernel⟩
theorem kv_times (V : Env K mg) : KnV P w K mg base 1 "times" 2 [] vTms := by
  refine knv_of (io := []) V.d_times sc_times rfl (by decide) fun f cdv A outer s H E en hr => ⟨_, (evss_cons (evs_if (evt_val (ev_op (fun _ _ h k => e_ix hr.u1 h k (fun _ _ => rfl)) ov_ix (ev_var (e_var 1)) ev_int)) (evss_one (evs_ret (ev_var (e_var 1)))) evss_nil) (evss_one (evs_ret (ev_tup (eva_cons (ev_op (fun _ _ h k => e_ix hr.u1 h k (fun _ _ => rfl)) ov_ix (ev_var (e_var 0)) ev_int) (eva_cons (ev_cb (fun _ h => b_tupleE V.b_tuple h) cv_tup (eva_cons (ev_cb (fun _ h => b_ssetE V.b_sorted V.b_set h) cv_sset (eva_cons (ev_op (fun _ _ h k => e_bin o_add h k) ov_add (ev_op (fun _ _ h k => e_ix hr.u1 h k (fun _ _ => rfl)) ov_ix (ev_var (e_var 0)) ev_int) (ev_op (fun _ _ h k => e_ix hr.u1 h k (fun _ _ => rfl)) ov_ix (ev_var (e_var 1)) ev_int)) eva_nil)) eva_nil)) eva_nil)))))), ?_⟩
  rintro σ Ψ ΨE ⟨⟨x, l⟩, ⟨y, m⟩, h0, h1, ha, hb, q⟩
  have hl : l.length ≤ 500 := ha.len
  have hm : m.length ≤ 500 := hb.len
  cases y
  · simp only [vseq_eq, vItems, Vl.pairP, vIndex, isLP, sortP, ssetP, int2P, joinP, vScr, vCallW, permL, List.filterMap_cons, List.filterMap_nil, vVar, vC, vNil, vCons, fz, vOp, vB, vAnd, vOr, vNot, vAndV, vOrV, vNotV, vIf, bP, vChain, vCB, rdL, vTup, vLst, tkL, vDict0, vNo, vSome, slP, vSl, vRev, vNeg, vIsi2, rd, giv, Vl.tk, vset_ap, eqB, neB, ordB, isB, isNonP, inB, Vl.addP, intP, mulP, ixP, lenP, absP, intCP, listP, tupP, dictP, isiP, tyP, keyP, vNext, vDrop, vRet, vRetN, vIfS, vBreak, vCont, vSet, vAsg, fvN, fvNil, fvCons, fvT, vPar, vIt, itP, vRg1, vRg2, vEnum, vZip, vFor, vForD, vdV, vdF, vLc, vLcD, vYes, vDc, vCall, vCallN, vApp, argV, slA, argS, Vl.cellOf, backV, conS, List.map_nil, List.map_cons, List.append_nil, List.cons_append, List.nil_append, List.length_cons, List.length_nil, List.mem_cons, List.not_mem_nil, List.getElem?_cons_zero, List.getElem?_cons_succ, List.getElem?_nil, or_false, List.nodup_nil, List.nodup_cons, not_false_eq_true, vMut, kdL, appP, extP, popP, insP, vUpd, owD, kdD, vStore, vGet1, vGet2, isDP, vPNil, vPCons, vDisp, vMeth, InsR, vProp, InsQ, vFld, putP, vFldS, vMake, vMakeN, slotsOf_nil, slotsOf_cons, vdel, endsV, endsL, resS, Option.isSome_some, reduceIte, Option.bind_some, true_and, and_true, Nat.reduceEqDiff, Nat.one_ne_zero, Nat.zero_ne_one, not_true_eq_false, false_and, and_false, if_true, if_false, Nat.zero_add, Nat.add_zero, h0, h1, elV, at2_0, at2_1, Bool.false_eq_true, if_false]
    refine ⟨zr (by rw [List.length_map, List.length_map]; omega), l ++ m, by rw [List.map_append], by rw [List.length_append]; omega, fun ys y1 y2 y3 y4 => ⟨zr (by decide), ?_⟩⟩
    rw [srt_of y1 y2 y3, res_nil]
    exact q
  · simp only [vseq_eq, vItems, Vl.pairP, vIndex, isLP, sortP, ssetP, int2P, joinP, vScr, vCallW, permL, List.filterMap_cons, List.filterMap_nil, vVar, vC, vNil, vCons, fz, vOp, vB, vAnd, vOr, vNot, vAndV, vOrV, vNotV, vIf, bP, vChain, vCB, rdL, vTup, vLst, tkL, vDict0, vNo, vSome, slP, vSl, vRev, vNeg, vIsi2, rd, giv, Vl.tk, vset_ap, eqB, neB, ordB, isB, isNonP, inB, Vl.addP, intP, mulP, ixP, lenP, absP, intCP, listP, tupP, dictP, isiP, tyP, keyP, vNext, vDrop, vRet, vRetN, vIfS, vBreak, vCont, vSet, vAsg, fvN, fvNil, fvCons, fvT, vPar, vIt, itP, vRg1, vRg2, vEnum, vZip, vFor, vForD, vdV, vdF, vLc, vLcD, vYes, vDc, vCall, vCallN, vApp, argV, slA, argS, Vl.cellOf, backV, conS, List.map_nil, List.map_cons, List.append_nil, List.cons_append, List.nil_append, List.length_cons, List.length_nil, List.mem_cons, List.not_mem_nil, List.getElem?_cons_zero, List.getElem?_cons_succ, List.getElem?_nil, or_false, List.nodup_nil, List.nodup_cons, not_false_eq_true, vMut, kdL, appP, extP, popP, insP, vUpd, owD, kdD, vStore, vGet1, vGet2, isDP, vPNil, vPCons, vDisp, vMeth, InsR, vProp, InsQ, vFld, putP, vFldS, vMake, vMakeN, slotsOf_nil, slotsOf_cons, vdel, endsV, endsL, resS, Option.isSome_some, reduceIte, Option.bind_some, true_and, and_true, Nat.reduceEqDiff, Nat.one_ne_zero, Nat.zero_ne_one, not_true_eq_false, false_and, and_false, if_true, if_false, Nat.zero_add, Nat.add_zero, h0, h1, elV, at2_0, at2_1, if_true, res_nil]
    exact q
def gapV (e : El) : PV := .tup [.str (if e.seen = true then "since" else "start"), .int (e.oth.length : Int)]
theorem sc_distance_at : FnScope ["one"] ["one"] (defScope (top 23)) := ⟨rfl, rfl, rfl, by decide +kernel, rfl, by decide +kernel, by decide +kernel⟩
theorem kv_distance_at (V : Env K mg) : KnV P w K mg base 1 "distance_at" 1 [] (fun σ Ψ _ => ∃ e, σ 0 = some (.fr (elV e)) ∧ Ψ (.fr (gapV e)) nilS) := by
  refine knv_of (io := []) V.d_distance_at sc_distance_at rfl (by decide) fun f cdv A outer s H E en hr => ⟨_, (evss_one (evs_ret (ev_tup (eva_cons (ev_if (evt_val (ev_op (fun _ _ h k => e_ix hr.u1 h k (fun _ _ => rfl)) ov_ix (ev_var (e_var 0)) ev_int)) ev_str ev_str) (eva_cons (ev_cb (fun _ h => b_lenE V.b_len h) cv_len (eva_cons (ev_op (fun _ _ h k => e_ix hr.u1 h k (fun _ _ => rfl)) ov_ix (ev_var (e_var 0)) ev_int) eva_nil)) eva_nil))))), ?_⟩
  rintro σ Ψ ΨE ⟨⟨b, l⟩, h0, q⟩
  simp only [vItems, Vl.pairP, vIndex, isLP, sortP, ssetP, int2P, joinP, vScr, vCallW, permL, List.filterMap_cons, List.filterMap_nil, vVar, vC, vNil, vCons, fz, vOp, vB, vAnd, vOr, vNot, vAndV, vOrV, vNotV, vIf, bP, vChain, vCB, rdL, vTup, vLst, tkL, vDict0, vNo, vSome, slP, vSl, vRev, vNeg, vIsi2, rd, giv, Vl.tk, vset_ap, eqB, neB, ordB, isB, isNonP, inB, Vl.addP, intP, mulP, ixP, lenP, absP, intCP, listP, tupP, dictP, isiP, tyP, keyP, vNext, vDrop, vRet, vRetN, vIfS, vBreak, vCont, vSet, vAsg, fvN, fvNil, fvCons, fvT, vPar, vIt, itP, vRg1, vRg2, vEnum, vZip, vFor, vForD, vdV, vdF, vLc, vLcD, vYes, vDc, vCall, vCallN, vApp, argV, slA, argS, Vl.cellOf, backV, conS, List.map_nil, List.map_cons, List.append_nil, List.cons_append, List.nil_append, List.length_cons, List.length_nil, List.mem_cons, List.not_mem_nil, List.getElem?_cons_zero, List.getElem?_cons_succ, List.getElem?_nil, or_false, List.nodup_nil, List.nodup_cons, not_false_eq_true, vMut, kdL, appP, extP, popP, insP, vUpd, owD, kdD, vStore, vGet1, vGet2, isDP, vPNil, vPCons, vDisp, vMeth, InsR, vProp, InsQ, vFld, putP, vFldS, vMake, vMakeN, slotsOf_nil, slotsOf_cons, vdel, endsV, endsL, resS, Option.isSome_some, reduceIte, Option.bind_some, true_and, and_true, Nat.reduceEqDiff, Nat.one_ne_zero, Nat.zero_ne_one, not_true_eq_false, false_and, and_false, if_true, if_false, Nat.zero_add, Nat.add_zero, h0, elV, at2_0, at2_1]
  have z : (1 + 1 : Nat) ≤ sizeLine := zr (by decide)
  cases b
  · simp only [Bool.false_eq_true, if_false, res_nil, List.length_map]
    exact ⟨z, q⟩
  · simp only [if_true, res_nil, List.length_map]
    exact ⟨z, q⟩
theorem sc_distance_of : FnScope ["element"] ["element"] (defScope (top 24)) := ⟨rfl, rfl, rfl, by decide +kernel, rfl, by decide +kernel, by decide +kernel⟩
theorem kv_distance_of (V : Env K mg) : KnV P w K mg base 4 "distance_of" 1 [] (fun σ Ψ _ => ∃ e, σ 0 = some (.fr (elV e)) ∧ ElOk 500 e ∧ Ψ (.fr (gapV e)) nilS) := by
  refine knv_of (io := []) V.d_distance_of sc_distance_of rfl (by decide) fun f cdv A outer s H E en hr => ⟨_, (evss_cons (evs_expr (ev_call (fun _ => .nil) (fun _ h => e_kn (kv_need_element V) (hr.mono (by decide)) h) (eva_cons (ev_var (e_var 0)) eva_nil))) (evss_one (evs_ret (ev_call (fun _ => .nil) (fun _ h => e_kn (kv_distance_at V) (hr.mono (by decide)) h) (eva_cons (ev_var (e_var 0)) eva_nil))))), ?_⟩
  rintro σ Ψ ΨE ⟨e, h0, hs, q⟩
  simp only [vseq_eq, vItems, Vl.pairP, vIndex, isLP, sortP, ssetP, int2P, joinP, vScr, vCallW, permL, List.filterMap_cons, List.filterMap_nil, vVar, vC, vNil, vCons, fz, vOp, vB, vAnd, vOr, vNot, vAndV, vOrV, vNotV, vIf, bP, vChain, vCB, rdL, vTup, vLst, tkL, vDict0, vNo, vSome, slP, vSl, vRev, vNeg, vIsi2, rd, giv, Vl.tk, vset_ap, eqB, neB, ordB, isB, isNonP, inB, Vl.addP, intP, mulP, ixP, lenP, absP, intCP, listP, tupP, dictP, isiP, tyP, keyP, vNext, vDrop, vRet, vRetN, vIfS, vBreak, vCont, vSet, vAsg, fvN, fvNil, fvCons, fvT, vPar, vIt, itP, vRg1, vRg2, vEnum, vZip, vFor, vForD, vdV, vdF, vLc, vLcD, vYes, vDc, vCall, vCallN, vApp, argV, slA, argS, Vl.cellOf, backV, conS, List.map_nil, List.map_cons, List.append_nil, List.cons_append, List.nil_append, List.length_cons, List.length_nil, List.mem_cons, List.not_mem_nil, List.getElem?_cons_zero, List.getElem?_cons_succ, List.getElem?_nil, or_false, List.nodup_nil, List.nodup_cons, not_false_eq_true, vMut, kdL, appP, extP, popP, insP, vUpd, owD, kdD, vStore, vGet1, vGet2, isDP, vPNil, vPCons, vDisp, vMeth, InsR, vProp, InsQ, vFld, putP, vFldS, vMake, vMakeN, slotsOf_nil, slotsOf_cons, vdel, endsV, endsL, resS, Option.isSome_some, reduceIte, Option.bind_some, true_and, and_true, Nat.reduceEqDiff, Nat.one_ne_zero, Nat.zero_ne_one, not_true_eq_false, false_and, and_false, if_true, if_false, Nat.zero_add, Nat.add_zero, h0, v1]
  exact ⟨_, rfl, ⟨e, rfl, hs⟩, e, rfl, by rw [res_nil]; exact q⟩
/-! ### the element of a walk -/
noncomputable def touch (kvs : List (Key × PV)) (focus b : Str) : El := if b = focus then ⟨true, []⟩ else if dgetP kvs (.inr b) = dgetP kvs (.inr focus) then ⟨false, [b]⟩ else nothing
theorem touch_ok {kvs : List (Key × PV)} {focus b : Str} (h : NameS b) : ElOk 1 (touch kvs focus b) := by
  unfold touch
  split
  · exact ⟨.nil, (fun s hs => by cases hs), by decide⟩
  · split
    · exact ⟨List.pairwise_singleton _ _, (fun s hs => by rw [List.mem_singleton.mp hs]; exact h), Nat.le_refl _⟩
    · exact ⟨.nil, (fun s hs => by cases hs), by decide⟩
/-- the sets of a layout, by name -/
theorem lay_get {kvs : List (Key × PV)} (h : LayP kvs) {s : Str} (m : (.inr s : Key) ∈ kvs.map (·.1)) : NameS s ∧ ∃ i, dgetP kvs (.inr s) = some (.int i) := by
  obtain ⟨v, e, hm⟩ := dget_some m
  obtain ⟨s', i, e2, hn, _⟩ := h.ok _ hm
  cases e2
  exact ⟨hn, i, e⟩
def vTouch : SpV := fun σ Ψ _ => ∃ kvs fo b, σ 0 = some (.fr (.dic kvs)) ∧ σ 1 = some (.fr (.str fo)) ∧ σ 2 = some (.fr (.str b)) ∧ LayP kvs ∧ (.inr fo : Key) ∈ kvs.map (·.1) ∧ (.inr b : Key) ∈ kvs.map (·.1) ∧ Ψ (.fr (elV (touch kvs fo b))) nilS
theorem sc_touch_element : FnScope ["layout", "focus", "block"] ["layout", "focus", "block"] (defScope (top 25)) := ⟨rfl, rfl, rfl, by decide +kernel, rfl, by decide +kernel, by decide +kernel⟩
theorem kv_touch_element (V : Env K mg) : KnV P w K mg base 1 "touch_element" 3 [] vTouch := by
  refine knv_of (io := []) V.d_touch_element sc_touch_element rfl (by decide) fun f cdv A outer s H E en hr => ⟨_, (evss_cons (evs_if (evt_op (fun _ _ h k => et_cmp (o_eq hr.u64) h k) ob_eq.v (ev_var (e_var 2)) (ev_var (e_var 1))) (evss_one (evs_ret (ev_glob (e_gTup V.g_FRESH) (fun _ => (.tup (.cons (.bl _) (.cons (.tup .nil) .nil))))))) evss_nil) (evss_one (evs_ret (ev_if (evt_op (fun _ _ h k => et_cmp (o_eq hr.u64) h k) ob_eq.v (ev_op (fun _ _ h k => e_ix hr.u1 h k (fun _ _ => rfl)) ov_ix (ev_var (e_var 0)) (ev_var (e_var 2))) (ev_op (fun _ _ h k => e_ix hr.u1 h k (fun _ _ => rfl)) ov_ix (ev_var (e_var 0)) (ev_var (e_var 1)))) (ev_tup (eva_cons ev_bl (eva_cons (ev_tup (eva_cons (ev_var (e_var 2)) eva_nil)) eva_nil))) (ev_glob (e_gTup V.g_NOTHING) (fun _ => (.tup (.cons (.bl _) (.cons (.tup .nil) .nil))))))))), ?_⟩
  rintro σ Ψ ΨE ⟨kvs, fo, b, h0, h1, h2, hs, mf, mb, q⟩
  obtain ⟨_, i, ei⟩ := lay_get hs mf
  obtain ⟨_, j, ej⟩ := lay_get hs mb
  unfold touch at q
  rw [ei, ej] at q
  simp only [vseq_eq, vItems, Vl.pairP, vIndex, isLP, sortP, ssetP, int2P, joinP, vScr, vCallW, permL, List.filterMap_cons, List.filterMap_nil, vVar, vC, vNil, vCons, fz, vOp, vB, vAnd, vOr, vNot, vAndV, vOrV, vNotV, vIf, bP, vChain, vCB, rdL, vTup, vLst, tkL, vDict0, vNo, vSome, slP, vSl, vRev, vNeg, vIsi2, rd, giv, Vl.tk, vset_ap, eqB, neB, ordB, isB, isNonP, inB, Vl.addP, intP, mulP, ixP, lenP, absP, intCP, listP, tupP, dictP, isiP, tyP, keyP, vNext, vDrop, vRet, vRetN, vIfS, vBreak, vCont, vSet, vAsg, fvN, fvNil, fvCons, fvT, vPar, vIt, itP, vRg1, vRg2, vEnum, vZip, vFor, vForD, vdV, vdF, vLc, vLcD, vYes, vDc, vCall, vCallN, vApp, argV, slA, argS, Vl.cellOf, backV, conS, List.map_nil, List.map_cons, List.append_nil, List.cons_append, List.nil_append, List.length_cons, List.length_nil, List.mem_cons, List.not_mem_nil, List.getElem?_cons_zero, List.getElem?_cons_succ, List.getElem?_nil, or_false, List.nodup_nil, List.nodup_cons, not_false_eq_true, vMut, kdL, appP, extP, popP, insP, vUpd, owD, kdD, vStore, vGet1, vGet2, isDP, vPNil, vPCons, vDisp, vMeth, InsR, vProp, InsQ, vFld, putP, vFldS, vMake, vMakeN, slotsOf_nil, slotsOf_cons, vdel, endsV, endsL, resS, Option.isSome_some, reduceIte, Option.bind_some, true_and, and_true, Nat.reduceEqDiff, Nat.one_ne_zero, Nat.zero_ne_one, not_true_eq_false, false_and, and_false, if_true, if_false, Nat.zero_add, Nat.add_zero, h0, h1, h2, ei, ej]
  refine ⟨.inl rfl, ?_⟩
  simp only [PV.str.injEq, PV.int.injEq, Option.some.injEq, decide_eq_true_eq, res_nil] at q ⊢
  split
  · rename_i z
    rw [if_pos z] at q
    exact q
  · rename_i z
    rw [if_neg z] at q
    refine ⟨.inl rfl, ?_⟩
    split
    · rename_i y
      rw [if_pos y] at q
      exact ⟨zr (by decide), zr (by decide), q⟩
    · rename_i y
      rw [if_neg y] at q
      exact q
noncomputable def elemOf (kvs : List (Key × PV)) (fo : Str) (bs : List Str) : El := bs.foldl (fun f b => tms f (touch kvs fo b)) nothing
theorem elem_snoc {kvs : List (Key × PV)} {fo b : Str} {u : List Str} : elemOf kvs fo (u ++ [b]) = tms (elemOf kvs fo u) (touch kvs fo b) := by
  unfold elemOf
  rw [List.foldl_append]
  rfl
theorem ElOk.mono {n m : Nat} {e : El} (h : ElOk n e) (k : n ≤ m) : ElOk m e := ⟨h.ss, h.nm, Nat.le_trans h.len k⟩
theorem elem_ok {kvs : List (Key × PV)} {fo : Str} (hs : LayP kvs) : ∀ (v : List Str) (e : El) (n : Nat), ElOk n e → (∀ b ∈ v, (.inr b : Key) ∈ kvs.map (·.1)) → ElOk (n + v.length) (v.foldl (fun f b => tms f (touch kvs fo b)) e)
  | [], e, n, h, _ => h
  | b :: v, e, n, h, m => by
    have h1 : ElOk (n + 1) (tms e (touch kvs fo b)) := tms_ok h (touch_ok (lay_get hs (m b List.mem_cons_self)).1)
    have := elem_ok (fo := fo) hs v _ (n + 1) h1 fun b hb => m b (List.mem_cons_of_mem _ hb)
    rw [List.length_cons, show n + (v.length + 1) = n + 1 + v.length by omega]
    exact this
theorem nothing_ok {n : Nat} : ElOk n nothing := ⟨.nil, (fun s hs => by cases hs), Nat.zero_le _⟩
theorem elemOf_ok {kvs : List (Key × PV)} {fo : Str} {bs : List Str} (hs : LayP kvs) (h : ∀ b ∈ bs, (.inr b : Key) ∈ kvs.map (·.1)) : ElOk bs.length (elemOf kvs fo bs) := by
  have := elem_ok (fo := fo) hs bs nothing 0 nothing_ok h
  rwa [Nat.zero_add] at this
def vElem : SpV := fun σ Ψ _ => ∃ p kvs fo bs, σ 0 = some (.fr p) ∧ itP p = some (bs.map PV.str) ∧ σ 1 = some (.fr (.dic kvs)) ∧ σ 2 = some (.fr (.str fo)) ∧ LayP kvs ∧ (.inr fo : Key) ∈ kvs.map (·.1) ∧ (∀ b ∈ bs, (.inr b : Key) ∈ kvs.map (·.1)) ∧ bs.length ≤ 400 ∧ Ψ (.fr (elV (elemOf kvs fo bs))) nilS
theorem sc_element_of : FnScope ["blocks", "layout", "focus", "block", "found"] ["blocks", "layout", "focus"] (defScope (top 26)) := ⟨rfl, rfl, rfl, by decide +kernel, rfl, by decide +kernel, by decide +kernel⟩

theorem body_element_of (V : Env K mg) : BodyV P w K mg base ["blocks", "layout", "focus", "block", "found"] "element_of" (defScope (top 26)) 4 (defBody (top 26)) [] vElem := by
  refine fun f cdv A outer s H E en hr => ⟨_, (evss_cons (evs_expr (ev_call (fun _ => .nil) (fun _ h => e_kn (kv_need_layout V) (hr.mono (by decide)) h) (eva_cons (ev_var (e_var 1)) eva_nil))) (evss_cons (evs_expr (ev_call (fun _ => .nil) (fun _ h => e_kn (kv_need_block V) (hr.mono (by decide)) h) (eva_cons (ev_var (e_var 1)) (eva_cons (ev_var (e_var 2)) eva_nil)))) (evss_cons (evs_for (passes_of rfl) rfl (evi_val (ev_var (e_var 0))) (gv_name (j := 3) sc_element_of.nd rfl (by first | exact .inl rfl | exact .inr rfl)) (evss_one (evs_expr (ev_call (fun _ => .nil) (fun _ h => e_kn (kv_need_block V) (hr.mono (by decide)) h) (eva_cons (ev_var (e_var 1)) (eva_cons (ev_var (e_var 3)) eva_nil)))))) (evss_cons (evs_set (j := 4) sc_element_of.nd rfl (by first | exact .inl rfl | exact .inr rfl) (ev_glob (e_gTup V.g_NOTHING) (fun _ => (.tup (.cons (.bl _) (.cons (.tup .nil) .nil)))))) (evss_cons (evs_for (passes_of rfl) rfl (evi_val (ev_var (e_var 0))) (gv_name (j := 3) sc_element_of.nd rfl (by first | exact .inl rfl | exact .inr rfl)) (evss_one (evs_set (j := 4) sc_element_of.nd rfl (by first | exact .inl rfl | exact .inr rfl) (ev_call (fun _ => .nil) (fun _ h => e_kn (kv_times V) (hr.mono (by decide)) h) (eva_cons (ev_var (e_var 4)) (eva_cons (ev_call (fun _ => .nil) (fun _ h => e_kn (kv_touch_element V) (hr.mono (by decide)) h) (eva_cons (ev_var (e_var 1)) (eva_cons (ev_var (e_var 2)) (eva_cons (ev_var (e_var 3)) eva_nil)))) eva_nil)))))) (evss_one (evs_ret (ev_var (e_var 4))))))))), ?_⟩
  rintro σ Ψ ΨE ⟨p, kvs, fo, bs, h0, hp, h1, h2, hs, mf, mb, hl, q⟩
  simp only [itP] at hp
  refine vsq1 (σ1 := σ) (fun R hR => ?_) ?_
  · simp only [vItems, Vl.pairP, vIndex, isLP, sortP, ssetP, int2P, joinP, vScr, vCallW, permL, List.filterMap_cons, List.filterMap_nil, vVar, vC, vNil, vCons, fz, vOp, vB, vAnd, vOr, vNot, vAndV, vOrV, vNotV, vIf, bP, vChain, vCB, rdL, vTup, vLst, tkL, vDict0, vNo, vSome, slP, vSl, vRev, vNeg, vIsi2, rd, giv, Vl.tk, vset_ap, eqB, neB, ordB, isB, isNonP, inB, Vl.addP, intP, mulP, ixP, lenP, absP, intCP, listP, tupP, dictP, isiP, tyP, keyP, vNext, vDrop, vRet, vRetN, vIfS, vBreak, vCont, vSet, vAsg, fvN, fvNil, fvCons, fvT, vPar, vIt, itP, vRg1, vRg2, vEnum, vZip, vFor, vForD, vdV, vdF, vLc, vLcD, vYes, vDc, vCall, vCallN, vApp, argV, slA, argS, Vl.cellOf, backV, conS, List.map_nil, List.map_cons, List.append_nil, List.cons_append, List.nil_append, List.length_cons, List.length_nil, List.mem_cons, List.not_mem_nil, List.getElem?_cons_zero, List.getElem?_cons_succ, List.getElem?_nil, or_false, List.nodup_nil, List.nodup_cons, not_false_eq_true, vMut, kdL, appP, extP, popP, insP, vUpd, owD, kdD, vStore, vGet1, vGet2, isDP, vPNil, vPCons, vDisp, vMeth, InsR, vProp, InsQ, vFld, putP, vFldS, vMake, vMakeN, slotsOf_nil, slotsOf_cons, vdel, endsV, endsL, resS, Option.isSome_some, reduceIte, Option.bind_some, true_and, and_true, Nat.reduceEqDiff, Nat.one_ne_zero, Nat.zero_ne_one, not_true_eq_false, false_and, and_false, if_true, if_false, Nat.zero_add, Nat.add_zero, h1, v1]
    exact ⟨_, rfl, ⟨kvs, rfl, hs⟩, hR⟩
  refine vsq1 (σ1 := σ) (fun R hR => ?_) ?_
  · simp only [vItems, Vl.pairP, vIndex, isLP, sortP, ssetP, int2P, joinP, vScr, vCallW, permL, List.filterMap_cons, List.filterMap_nil, vVar, vC, vNil, vCons, fz, vOp, vB, vAnd, vOr, vNot, vAndV, vOrV, vNotV, vIf, bP, vChain, vCB, rdL, vTup, vLst, tkL, vDict0, vNo, vSome, slP, vSl, vRev, vNeg, vIsi2, rd, giv, Vl.tk, vset_ap, eqB, neB, ordB, isB, isNonP, inB, Vl.addP, intP, mulP, ixP, lenP, absP, intCP, listP, tupP, dictP, isiP, tyP, keyP, vNext, vDrop, vRet, vRetN, vIfS, vBreak, vCont, vSet, vAsg, fvN, fvNil, fvCons, fvT, vPar, vIt, itP, vRg1, vRg2, vEnum, vZip, vFor, vForD, vdV, vdF, vLc, vLcD, vYes, vDc, vCall, vCallN, vApp, argV, slA, argS, Vl.cellOf, backV, conS, List.map_nil, List.map_cons, List.append_nil, List.cons_append, List.nil_append, List.length_cons, List.length_nil, List.mem_cons, List.not_mem_nil, List.getElem?_cons_zero, List.getElem?_cons_succ, List.getElem?_nil, or_false, List.nodup_nil, List.nodup_cons, not_false_eq_true, vMut, kdL, appP, extP, popP, insP, vUpd, owD, kdD, vStore, vGet1, vGet2, isDP, vPNil, vPCons, vDisp, vMeth, InsR, vProp, InsQ, vFld, putP, vFldS, vMake, vMakeN, slotsOf_nil, slotsOf_cons, vdel, endsV, endsL, resS, Option.isSome_some, reduceIte, Option.bind_some, true_and, and_true, Nat.reduceEqDiff, Nat.one_ne_zero, Nat.zero_ne_one, not_true_eq_false, false_and, and_false, if_true, if_false, Nat.zero_add, Nat.add_zero, h1, h2, vNeedBlock]
    exact ⟨kvs, fo, rfl, hs, rfl, mf, hR⟩
  refine vsq (M := fun τ => τ 0 = some (.fr p) ∧ τ 1 = some (.fr (.dic kvs)) ∧ τ 2 = some (.fr (.str fo))) ?_ fun R hR => ?_
  · rintro τ ⟨e0, e1, e2⟩
    refine vsq1 (σ1 := vset τ 4 (some (.fr (elV nothing)))) (fun R hR => hR) ?_
    refine vsq (M := fun τ => τ 4 = some (.fr (elV (elemOf kvs fo bs)))) ?_ fun R hR => ?_
    · intro τ e
      simp only [vItems, Vl.pairP, vIndex, isLP, sortP, ssetP, int2P, joinP, vScr, vCallW, permL, List.filterMap_cons, List.filterMap_nil, vVar, vC, vNil, vCons, fz, vOp, vB, vAnd, vOr, vNot, vAndV, vOrV, vNotV, vIf, bP, vChain, vCB, rdL, vTup, vLst, tkL, vDict0, vNo, vSome, slP, vSl, vRev, vNeg, vIsi2, rd, giv, Vl.tk, vset_ap, eqB, neB, ordB, isB, isNonP, inB, Vl.addP, intP, mulP, ixP, lenP, absP, intCP, listP, tupP, dictP, isiP, tyP, keyP, vNext, vDrop, vRet, vRetN, vIfS, vBreak, vCont, vSet, vAsg, fvN, fvNil, fvCons, fvT, vPar, vIt, itP, vRg1, vRg2, vEnum, vZip, vFor, vForD, vdV, vdF, vLc, vLcD, vYes, vDc, vCall, vCallN, vApp, argV, slA, argS, Vl.cellOf, backV, conS, List.map_nil, List.map_cons, List.append_nil, List.cons_append, List.nil_append, List.length_cons, List.length_nil, List.mem_cons, List.not_mem_nil, List.getElem?_cons_zero, List.getElem?_cons_succ, List.getElem?_nil, or_false, List.nodup_nil, List.nodup_cons, not_false_eq_true, vMut, kdL, appP, extP, popP, insP, vUpd, owD, kdD, vStore, vGet1, vGet2, isDP, vPNil, vPCons, vDisp, vMeth, InsR, vProp, InsQ, vFld, putP, vFldS, vMake, vMakeN, slotsOf_nil, slotsOf_cons, vdel, endsV, endsL, resS, Option.isSome_some, reduceIte, Option.bind_some, true_and, and_true, Nat.reduceEqDiff, Nat.one_ne_zero, Nat.zero_ne_one, not_true_eq_false, false_and, and_false, if_true, if_false, Nat.zero_add, Nat.add_zero, e, res_nil]
      exact q
    · simp only [vItems, Vl.pairP, vIndex, isLP, sortP, ssetP, int2P, joinP, vScr, vCallW, permL, List.filterMap_cons, List.filterMap_nil, vVar, vC, vNil, vCons, fz, vOp, vB, vAnd, vOr, vNot, vAndV, vOrV, vNotV, vIf, bP, vChain, vCB, rdL, vTup, vLst, tkL, vDict0, vNo, vSome, slP, vSl, vRev, vNeg, vIsi2, rd, giv, Vl.tk, vset_ap, eqB, neB, ordB, isB, isNonP, inB, Vl.addP, intP, mulP, ixP, lenP, absP, intCP, listP, tupP, dictP, isiP, tyP, keyP, vNext, vDrop, vRet, vRetN, vIfS, vBreak, vCont, vSet, vAsg, fvN, fvNil, fvCons, fvT, vPar, vIt, itP, vRg1, vRg2, vEnum, vZip, vFor, vForD, vdV, vdF, vLc, vLcD, vYes, vDc, vCall, vCallN, vApp, argV, slA, argS, Vl.cellOf, backV, conS, List.map_nil, List.map_cons, List.append_nil, List.cons_append, List.nil_append, List.length_cons, List.length_nil, List.mem_cons, List.not_mem_nil, List.getElem?_cons_zero, List.getElem?_cons_succ, List.getElem?_nil, or_false, List.nodup_nil, List.nodup_cons, not_false_eq_true, vMut, kdL, appP, extP, popP, insP, vUpd, owD, kdD, vStore, vGet1, vGet2, isDP, vPNil, vPCons, vDisp, vMeth, InsR, vProp, InsQ, vFld, putP, vFldS, vMake, vMakeN, slotsOf_nil, slotsOf_cons, vdel, endsV, endsL, resS, Option.isSome_some, reduceIte, Option.bind_some, true_and, and_true, Nat.reduceEqDiff, Nat.one_ne_zero, Nat.zero_ne_one, not_true_eq_false, false_and, and_false, if_true, if_false, Nat.zero_add, Nat.add_zero, e0, hp]
      refine forV_ind (I := fun r τ => ∃ u v, bs = u ++ v ∧ r = v.map PV.str ∧ τ 1 = some (.fr (.dic kvs)) ∧ τ 2 = some (.fr (.str fo)) ∧ τ 4 = some (.fr (elV (elemOf kvs fo u)))) ?_ ?_ _ _ ⟨[], bs, rfl, rfl, by simpa [vset] using e1, by simpa [vset] using e2, rfl⟩
      · rintro τ ⟨u, v, h, h', e1, e2, e3⟩
        cases v with
        | nil => rw [List.append_nil] at h; subst h; exact hR _ e3
        | cons _ _ => cases h'
      · rintro x r τ ⟨u, v, h, h', e1, e2, e3⟩
        cases v with
        | nil => cases h'
        | cons b v =>
          cases h'
          refine ⟨_, rfl, fun R hR => ?_⟩
          have mb' : (.inr b : Key) ∈ kvs.map (·.1) := mb b (by rw [h]; simp)
          have ub : ∀ b ∈ u, (.inr b : Key) ∈ kvs.map (·.1) := fun b hb => mb b (by rw [h]; simp [hb])
          have ul : u.length ≤ 400 := by rw [h, List.length_append] at hl; omega
          simp only [vItems, Vl.pairP, vIndex, isLP, sortP, ssetP, int2P, joinP, vScr, vCallW, permL, List.filterMap_cons, List.filterMap_nil, vVar, vC, vNil, vCons, fz, vOp, vB, vAnd, vOr, vNot, vAndV, vOrV, vNotV, vIf, bP, vChain, vCB, rdL, vTup, vLst, tkL, vDict0, vNo, vSome, slP, vSl, vRev, vNeg, vIsi2, rd, giv, Vl.tk, vset_ap, eqB, neB, ordB, isB, isNonP, inB, Vl.addP, intP, mulP, ixP, lenP, absP, intCP, listP, tupP, dictP, isiP, tyP, keyP, vNext, vDrop, vRet, vRetN, vIfS, vBreak, vCont, vSet, vAsg, fvN, fvNil, fvCons, fvT, vPar, vIt, itP, vRg1, vRg2, vEnum, vZip, vFor, vForD, vdV, vdF, vLc, vLcD, vYes, vDc, vCall, vCallN, vApp, argV, slA, argS, Vl.cellOf, backV, conS, List.map_nil, List.map_cons, List.append_nil, List.cons_append, List.nil_append, List.length_cons, List.length_nil, List.mem_cons, List.not_mem_nil, List.getElem?_cons_zero, List.getElem?_cons_succ, List.getElem?_nil, or_false, List.nodup_nil, List.nodup_cons, not_false_eq_true, vMut, kdL, appP, extP, popP, insP, vUpd, owD, kdD, vStore, vGet1, vGet2, isDP, vPNil, vPCons, vDisp, vMeth, InsR, vProp, InsQ, vFld, putP, vFldS, vMake, vMakeN, slotsOf_nil, slotsOf_cons, vdel, endsV, endsL, resS, Option.isSome_some, reduceIte, Option.bind_some, true_and, and_true, Nat.reduceEqDiff, Nat.one_ne_zero, Nat.zero_ne_one, not_true_eq_false, false_and, and_false, if_true, if_false, Nat.zero_add, Nat.add_zero, e1, e2, e3, vTouch, vTms]
          refine ⟨kvs, fo, b, rfl, rfl, rfl, hs, mf, mb', _, _, rfl, rfl, (elemOf_ok hs ub).mono (by omega), (touch_ok (lay_get hs mb').1).mono (by decide), ?_⟩
          refine hR _ ⟨u ++ [b], v, by rw [h]; simp, rfl, ?_, ?_, ?_⟩
          · simpa [vset] using e1
          · simpa [vset] using e2
          · simp [vset, elem_snoc]
  · simp only [vItems, Vl.pairP, vIndex, isLP, sortP, ssetP, int2P, joinP, vScr, vCallW, permL, List.filterMap_cons, List.filterMap_nil, vVar, vC, vNil, vCons, fz, vOp, vB, vAnd, vOr, vNot, vAndV, vOrV, vNotV, vIf, bP, vChain, vCB, rdL, vTup, vLst, tkL, vDict0, vNo, vSome, slP, vSl, vRev, vNeg, vIsi2, rd, giv, Vl.tk, vset_ap, eqB, neB, ordB, isB, isNonP, inB, Vl.addP, intP, mulP, ixP, lenP, absP, intCP, listP, tupP, dictP, isiP, tyP, keyP, vNext, vDrop, vRet, vRetN, vIfS, vBreak, vCont, vSet, vAsg, fvN, fvNil, fvCons, fvT, vPar, vIt, itP, vRg1, vRg2, vEnum, vZip, vFor, vForD, vdV, vdF, vLc, vLcD, vYes, vDc, vCall, vCallN, vApp, argV, slA, argS, Vl.cellOf, backV, conS, List.map_nil, List.map_cons, List.append_nil, List.cons_append, List.nil_append, List.length_cons, List.length_nil, List.mem_cons, List.not_mem_nil, List.getElem?_cons_zero, List.getElem?_cons_succ, List.getElem?_nil, or_false, List.nodup_nil, List.nodup_cons, not_false_eq_true, vMut, kdL, appP, extP, popP, insP, vUpd, owD, kdD, vStore, vGet1, vGet2, isDP, vPNil, vPCons, vDisp, vMeth, InsR, vProp, InsQ, vFld, putP, vFldS, vMake, vMakeN, slotsOf_nil, slotsOf_cons, vdel, endsV, endsL, resS, Option.isSome_some, reduceIte, Option.bind_some, true_and, and_true, Nat.reduceEqDiff, Nat.one_ne_zero, Nat.zero_ne_one, not_true_eq_false, false_and, and_false, if_true, if_false, Nat.zero_add, Nat.add_zero, h0, hp]
    refine forV_ind (I := fun r τ => (∃ v, r = v.map PV.str ∧ ∀ b ∈ v, b ∈ bs) ∧ τ 0 = some (.fr p) ∧ τ 1 = some (.fr (.dic kvs)) ∧ τ 2 = some (.fr (.str fo))) ?_ ?_ _ _ ⟨⟨bs, rfl, fun b hb => hb⟩, h0, h1, h2⟩
    · exact fun τ h => hR _ h.2
    rintro x r τ ⟨⟨v, h, hv⟩, e0, e1, e2⟩
    cases v with
    | nil => cases h
    | cons b v =>
      cases h
      refine ⟨_, rfl, fun R hR => ?_⟩
      simp only [vItems, Vl.pairP, vIndex, isLP, sortP, ssetP, int2P, joinP, vScr, vCallW, permL, List.filterMap_cons, List.filterMap_nil, vVar, vC, vNil, vCons, fz, vOp, vB, vAnd, vOr, vNot, vAndV, vOrV, vNotV, vIf, bP, vChain, vCB, rdL, vTup, vLst, tkL, vDict0, vNo, vSome, slP, vSl, vRev, vNeg, vIsi2, rd, giv, Vl.tk, vset_ap, eqB, neB, ordB, isB, isNonP, inB, Vl.addP, intP, mulP, ixP, lenP, absP, intCP, listP, tupP, dictP, isiP, tyP, keyP, vNext, vDrop, vRet, vRetN, vIfS, vBreak, vCont, vSet, vAsg, fvN, fvNil, fvCons, fvT, vPar, vIt, itP, vRg1, vRg2, vEnum, vZip, vFor, vForD, vdV, vdF, vLc, vLcD, vYes, vDc, vCall, vCallN, vApp, argV, slA, argS, Vl.cellOf, backV, conS, List.map_nil, List.map_cons, List.append_nil, List.cons_append, List.nil_append, List.length_cons, List.length_nil, List.mem_cons, List.not_mem_nil, List.getElem?_cons_zero, List.getElem?_cons_succ, List.getElem?_nil, or_false, List.nodup_nil, List.nodup_cons, not_false_eq_true, vMut, kdL, appP, extP, popP, insP, vUpd, owD, kdD, vStore, vGet1, vGet2, isDP, vPNil, vPCons, vDisp, vMeth, InsR, vProp, InsQ, vFld, putP, vFldS, vMake, vMakeN, slotsOf_nil, slotsOf_cons, vdel, endsV, endsL, resS, Option.isSome_some, reduceIte, Option.bind_some, true_and, and_true, Nat.reduceEqDiff, Nat.one_ne_zero, Nat.zero_ne_one, not_true_eq_false, false_and, and_false, if_true, if_false, Nat.zero_add, Nat.add_zero, e1, vNeedBlock]
      refine ⟨kvs, b, rfl, hs, rfl, mb b (hv b List.mem_cons_self), hR _ ⟨⟨v, rfl, fun b hb => hv b (List.mem_cons_of_mem _ hb)⟩, ?_, ?_, ?_⟩⟩
      · simpa [vset] using e0
      · simpa [vset] using e1
      · simpa [vset] using e2
theorem kv_element_of (V : Env K mg) : KnV P w K mg base 5 "element_of" 3 [] vElem := knv_of V.d_element_of sc_element_of rfl (by decide) (body_element_of V)

end K17
namespace K17
open PySem PySem.Spec PyProof.Rows L2 Dv Vl
variable {P : Program} {w : World} {K : Fr0} {mg : Str → Option Value} {base : Heap}
/-! ### the law's draws of names, blocks, layouts -/
def menu : List Str := ["a", "b", "c", "d", "main", "end", "zzzzzzzz"]
theorem menu_nd : menu.Nodup := by decide +kernel
def nameB (s : Str) : Bool := decide (1 ≤ s.length) && (decide (s.length ≤ 8) && s.cps.toList.all fun c => letters.cps.toList.contains c)
theorem name_dec {s : Str} (h : nameB s = true) : NameS s := by
  unfold nameB at h
  rw [Bool.and_eq_true, Bool.and_eq_true, decide_eq_true_eq, decide_eq_true_eq, List.all_eq_true] at h
  exact ⟨⟨h.1, h.2.1⟩, fun c hc => List.contains_iff_mem.mp (h.2.2 c hc)⟩
theorem menu_name : ∀ s ∈ menu, NameS s := fun s hs => name_dec (List.all_eq_true.mp (show menu.all nameB = true by decide +kernel) s hs)
theorem unused_name : NameS "unused" := name_dec (by decide +kernel)
theorem unused_out : ("unused" : Str) ∉ menu := by decide +kernel
theorem ok_strs {ss : List Str} (h : ∀ s ∈ ss, NameS s) : OkPs (ss.map PV.str) := fun p hp => by
  obtain ⟨s, hs, rfl⟩ := List.mem_map.mp hp
  exact ⟨name_ok (h s hs), Nat.zero_le _⟩
structure BlkP (bs : List Str) : Prop where
  nd : bs.Nodup
  sub : ∀ b ∈ bs, b ∈ menu
  len : 1 ≤ bs.length ∧ bs.length ≤ 5
theorem perm_strs {ss : List Str} {ys : List PV} (h : ys.Perm (ss.map PV.str)) : ∃ zs : List Str, ys = zs.map PV.str ∧ zs.Perm ss := by
  have sv : ∀ y ∈ ys, ∃ s, y = PV.str s := fun y hy => by
    obtain ⟨s, _, e⟩ := List.mem_map.mp (h.subset hy)
    exact ⟨s, e.symm⟩
  let u : PV → Str := fun y => match y with
    | .str s => s
    | _ => Str.empty
  refine ⟨ys.map u, ?_, ?_⟩
  · rw [List.map_map]
    conv => lhs; rw [← List.map_id ys]
    refine List.map_congr_left fun y hy => ?_
    obtain ⟨s, rfl⟩ := sv y hy
    rfl
  · have := h.map u
    rw [List.map_map] at this
    have e : (u ∘ PV.str) = id := rfl
    rw [e, List.map_id] at this
    exact this
def vBlocks : SpV := fun σ Ψ _ => ∃ n, σ 0 = some (.ab (drw n)) ∧ n + 20 < mostDraws ∧ ∀ bs, BlkP bs → Ψ (.ow (.lst (bs.map PV.str))) (drS (n + 8))
theorem sc__law_blocks : FnScope ["_law_draw"] ["_law_draw"] (defScope (top 32)) := ⟨rfl, rfl, rfl, by decide +kernel, rfl, by decide +kernel, by decide +kernel⟩

theorem kv__law_blocks (V : Env K mg) : KnV P w K mg base 3 "_law_blocks" 1 [0] vBlocks := by
  refine knv_of (io := [0]) V.d__law_blocks sc__law_blocks rfl (by decide) fun f cdv A outer s H E en hr => ⟨_, (evss_one (evs_ret (ev_slice (ev_call (fun _ => .nil) (fun _ h => e_kn (kv__law_shuffled V) (hr.mono (by decide)) h) (eva_cons (ev_var (e_var 0)) (eva_cons (ev_lst (eva_cons ev_str (eva_cons ev_str (eva_cons ev_str (eva_cons ev_str (eva_cons ev_str (eva_cons ev_str (eva_cons ev_str eva_nil)))))))) eva_nil))) evo_none (evo_some (ev_op (fun _ _ h k => e_bin o_add h k) ov_add ev_int (ev_call (fun _ => .nil) (fun _ h => e_kn (kv__law_take V) (hr.mono (by decide)) h) (eva_cons (ev_var (e_var 0)) (eva_cons ev_int eva_nil)))))))), ?_⟩
  rintro σ Ψ ΨE ⟨n, h0, hn, q⟩
  have hmd : mostDraws = 10 ^ 9 := rfl
  simp only [vItems, Vl.pairP, vIndex, isLP, sortP, ssetP, int2P, joinP, vScr, vCallW, permL, List.filterMap_cons, List.filterMap_nil, vVar, vC, vNil, vCons, fz, vOp, vB, vAnd, vOr, vNot, vAndV, vOrV, vNotV, vIf, bP, vChain, vCB, rdL, vTup, vLst, tkL, vDict0, vNo, vSome, slP, vSl, vRev, vNeg, vIsi2, rd, giv, Vl.tk, vset_ap, eqB, neB, ordB, isB, isNonP, inB, Vl.addP, intP, mulP, ixP, lenP, absP, intCP, listP, tupP, dictP, isiP, tyP, keyP, vNext, vDrop, vRet, vRetN, vIfS, vBreak, vCont, vSet, vAsg, fvN, fvNil, fvCons, fvT, vPar, vIt, itP, vRg1, vRg2, vEnum, vZip, vFor, vForD, vdV, vdF, vLc, vLcD, vYes, vDc, vCall, vCallN, vApp, argV, slA, argS, Vl.cellOf, backV, conS, List.map_nil, List.map_cons, List.append_nil, List.cons_append, List.nil_append, List.length_cons, List.length_nil, List.mem_cons, List.not_mem_nil, List.getElem?_cons_zero, List.getElem?_cons_succ, List.getElem?_nil, or_false, List.nodup_nil, List.nodup_cons, not_false_eq_true, vMut, kdL, appP, extP, popP, insP, vUpd, owD, kdD, vStore, vGet1, vGet2, isDP, vPNil, vPCons, vDisp, vMeth, InsR, vProp, InsQ, vFld, putP, vFldS, vMake, vMakeN, slotsOf_nil, slotsOf_cons, vdel, endsV, endsL, resS, Option.isSome_some, reduceIte, Option.bind_some, true_and, and_true, Nat.reduceEqDiff, Nat.one_ne_zero, Nat.zero_ne_one, not_true_eq_false, false_and, and_false, if_true, if_false, Nat.zero_add, Nat.add_zero, h0, vShuf]
  refine ⟨zr (by decide), n, _, rfl, rfl, ok_strs (ss := menu) menu_name, by decide, by show n + 7 < _; omega, fun ys hp => ?_⟩
  simp only [vItems, Vl.pairP, vIndex, isLP, sortP, ssetP, int2P, joinP, vScr, vCallW, permL, List.filterMap_cons, List.filterMap_nil, vVar, vC, vNil, vCons, fz, vOp, vB, vAnd, vOr, vNot, vAndV, vOrV, vNotV, vIf, bP, vChain, vCB, rdL, vTup, vLst, tkL, vDict0, vNo, vSome, slP, vSl, vRev, vNeg, vIsi2, rd, giv, Vl.tk, vset_ap, eqB, neB, ordB, isB, isNonP, inB, Vl.addP, intP, mulP, ixP, lenP, absP, intCP, listP, tupP, dictP, isiP, tyP, keyP, vNext, vDrop, vRet, vRetN, vIfS, vBreak, vCont, vSet, vAsg, fvN, fvNil, fvCons, fvT, vPar, vIt, itP, vRg1, vRg2, vEnum, vZip, vFor, vForD, vdV, vdF, vLc, vLcD, vYes, vDc, vCall, vCallN, vApp, argV, slA, argS, Vl.cellOf, backV, conS, List.map_nil, List.map_cons, List.append_nil, List.cons_append, List.nil_append, List.length_cons, List.length_nil, List.mem_cons, List.not_mem_nil, List.getElem?_cons_zero, List.getElem?_cons_succ, List.getElem?_nil, or_false, List.nodup_nil, List.nodup_cons, not_false_eq_true, vMut, kdL, appP, extP, popP, insP, vUpd, owD, kdD, vStore, vGet1, vGet2, isDP, vPNil, vPCons, vDisp, vMeth, InsR, vProp, InsQ, vFld, putP, vFldS, vMake, vMakeN, slotsOf_nil, slotsOf_cons, vdel, endsV, endsL, resS, Option.isSome_some, reduceIte, Option.bind_some, true_and, and_true, Nat.reduceEqDiff, Nat.one_ne_zero, Nat.zero_ne_one, not_true_eq_false, false_and, and_false, if_true, if_false, Nat.zero_add, Nat.add_zero, vTake, drS, conS]
  refine ⟨_, 5, rfl, rfl, ⟨by decide, by decide⟩, by show n + 7 < _; omega, fun r h2 h3 => ?_⟩
  obtain ⟨j, rfl⟩ := Int.eq_ofNat_of_zero_le h2
  obtain ⟨zs, rfl, hz⟩ := perm_strs (ss := menu) hp
  rw [show ((1 : Int) + (j : Int)) = ((1 + j : Nat) : Int) by omega, cut_to]
  rw [← List.map_take]
  have hl : zs.length = 7 := hz.length_eq
  have hq := q (zs.take (1 + j)) ⟨((hz.nodup_iff).mpr menu_nd).sublist (List.take_sublist _ _), fun b hb => hz.subset (List.mem_of_mem_take hb), by rw [List.length_take]; omega⟩
  rw [res_dr (n := n + 8) rfl]
  exact hq
def pairV (u : List Str) (is : List Int) : List (Key × PV) := (u.zip is).map fun q => (.inr q.1, .int q.2)
theorem pairs_ok (u : List Str) (is : List Int) : pairsP ((u.zip is).map fun q => PV.tup [.str q.1, .int q.2]) = some (pairV u is) := by
  unfold pairV
  induction u.zip is with
  | nil => rfl
  | cons q r ih => simp only [List.map_cons, pairsP, keyP, ih]
theorem pair_keys : ∀ {u : List Str} {is : List Int}, is.length = u.length → (pairV u is).map (·.1) = u.map Sum.inr
  | [], [], _ => rfl
  | a :: u, i :: is, h => by
    have := pair_keys (u := u) (is := is) (by simpa using h)
    simp only [pairV, List.zip_cons_cons, List.map_cons] at this ⊢
    rw [this]
theorem dput_new {kvs : List (Key × PV)} {k : Key} {v : PV} (h : k ∉ kvs.map (·.1)) : dputP kvs k v = kvs ++ [(k, v)] := by
  unfold dputP
  rw [if_neg]
  intro z
  obtain ⟨kv, h1, h2⟩ := List.any_eq_true.mp z
  exact h (List.mem_map.mpr ⟨kv, h1, of_decide_eq_true h2⟩)
theorem dmerge_new : ∀ (ps acc : List (Key × PV)), ((acc ++ ps).map (·.1)).Nodup → dmergeP acc ps = acc ++ ps
  | [], acc, _ => by simp [dmergeP]
  | (k, v) :: ps, acc, h => by
    have hk : k ∉ acc.map (·.1) := fun z => by
      rw [List.map_append, List.map_cons] at h
      exact (List.nodup_append.mp h).2.2 k z k List.mem_cons_self rfl
    have e : dmergeP acc ((k, v) :: ps) = dmergeP (dputP acc k v) ps := rfl
    rw [e, dput_new hk, dmerge_new ps _ (by simpa using h)]
    simp
theorem inr_nodup {l : List Str} (h : l.Nodup) : (l.map (Sum.inr : Str → Key)).Nodup := by
  unfold List.Nodup at h ⊢
  rw [List.pairwise_map]
  exact List.Pairwise.imp (fun {a b} (h : a ≠ b) z => h (Sum.inr.inj z)) h
def vLayout : SpV := fun σ Ψ _ => ∃ n bs k, σ 0 = some (.ab (drw n)) ∧ σ 1 = some (.fr (.lst (bs.map PV.str))) ∧ σ 2 = some (.fr (.int k)) ∧ BlkP bs ∧ 1 ≤ k ∧ k ≤ 8 ∧ n + 20 < mostDraws ∧
  ∀ kvs, LayP kvs → kvs.map (·.1) = (bs ++ [("unused" : Str)]).map Sum.inr → Ψ (.ow (.dic kvs)) (drS (n + bs.length + 1))
theorem sc__law_layout : FnScope ["_law_draw", "_law_menu", "_law_sets", "_law_block"] ["_law_draw", "_law_menu", "_law_sets"] (defScope (top 33)) := ⟨rfl, rfl, rfl, by decide +kernel, rfl, by decide +kernel, by decide +kernel⟩

theorem kv__law_layout (V : Env K mg) : KnV P w K mg base 2 "_law_layout" 3 [0] vLayout := by
  refine knv_of (io := [0]) V.d__law_layout sc__law_layout rfl (by decide) fun f cdv A outer s H E en hr => ⟨_, (evss_one (evs_ret (ev_cb (fun _ h => b_dictE V.b_dict h) cv_dict (eva_cons (ev_lc [("_law_block", 3)] sc__law_layout.nd (evi_val (ev_op (fun _ _ h k => e_bin o_add h k) ov_add (ev_var (e_var 1)) (ev_lst (eva_cons ev_str eva_nil)))) (fun _ _ _ _ _ => (gv_name (j := 3) sc__law_layout.nd rfl (by first | exact .inl rfl | exact .inr rfl))) (fun _ _ _ _ _ => evts_nil) (fun _ _ _ _ _ => (ev_tup (eva_cons (ev_var (e_var 3)) (eva_cons (ev_call (fun _ => .nil) (fun _ h => e_kn (kv__law_take V) (hr.mono (by decide)) h) (eva_cons (ev_var (e_var 0)) (eva_cons (ev_var (e_var 2)) eva_nil))) eva_nil)))) only_name) eva_nil)))), ?_⟩
  rintro σ Ψ ΨE ⟨n, bs, k, h0, h1, h2, hb, k1, k8, hn, q⟩
  have hmd : mostDraws = 10 ^ 9 := rfl
  simp only [vItems, Vl.pairP, vIndex, isLP, sortP, ssetP, int2P, joinP, vScr, vCallW, permL, List.filterMap_cons, List.filterMap_nil, vVar, vC, vNil, vCons, fz, vOp, vB, vAnd, vOr, vNot, vAndV, vOrV, vNotV, vIf, bP, vChain, vCB, rdL, vTup, vLst, tkL, vDict0, vNo, vSome, slP, vSl, vRev, vNeg, vIsi2, rd, giv, Vl.tk, vset_ap, eqB, neB, ordB, isB, isNonP, inB, Vl.addP, intP, mulP, ixP, lenP, absP, intCP, listP, tupP, dictP, isiP, tyP, keyP, vNext, vDrop, vRet, vRetN, vIfS, vBreak, vCont, vSet, vAsg, fvN, fvNil, fvCons, fvT, vPar, vIt, itP, vRg1, vRg2, vEnum, vZip, vFor, vForD, vdV, vdF, vLc, vLcD, vYes, vDc, vCall, vCallN, vApp, argV, slA, argS, Vl.cellOf, backV, conS, List.map_nil, List.map_cons, List.append_nil, List.cons_append, List.nil_append, List.length_cons, List.length_nil, List.mem_cons, List.not_mem_nil, List.getElem?_cons_zero, List.getElem?_cons_succ, List.getElem?_nil, or_false, List.nodup_nil, List.nodup_cons, not_false_eq_true, vMut, kdL, appP, extP, popP, insP, vUpd, owD, kdD, vStore, vGet1, vGet2, isDP, vPNil, vPCons, vDisp, vMeth, InsR, vProp, InsQ, vFld, putP, vFldS, vMake, vMakeN, slotsOf_nil, slotsOf_cons, vdel, endsV, endsL, resS, Option.isSome_some, reduceIte, Option.bind_some, true_and, and_true, Nat.reduceEqDiff, Nat.one_ne_zero, Nat.zero_ne_one, not_true_eq_false, false_and, and_false, if_true, if_false, Nat.zero_add, Nat.add_zero, h1]
  refine ⟨zr (by decide), zr (by rw [List.length_map]; have := hb.len.2; omega), ?_⟩
  have nm : ∀ s ∈ bs ++ [("unused" : Str)], NameS s := fun s hs => by
    rcases List.mem_append.mp hs with z | z
    · exact menu_name s (hb.sub s z)
    · rw [List.mem_singleton.mp z]; exact unused_name
  have nd : (bs ++ [("unused" : Str)]).Nodup := List.nodup_append.mpr ⟨hb.nd, by simp, fun a ha b hb' z => by
    rw [List.mem_singleton.mp hb'] at z
    exact unused_out (z ▸ hb.sub a ha)⟩
  rw [show bs.map PV.str ++ [PV.str (Str.ofString "unused")] = (bs ++ [("unused" : Str)]).map PV.str by rw [List.map_append]; rfl]
  refine lcV_ind (I := fun r acc τ => τ 0 = some (.ab (drw (n + acc.length))) ∧ τ 2 = some (.fr (.int k)) ∧ ∃ u v, bs ++ [("unused" : Str)] = u ++ v ∧ r = v.map PV.str ∧ ∃ is : List Int, is.length = u.length ∧ (∀ i ∈ is, 0 ≤ i ∧ i < k) ∧ acc = (u.zip is).map fun q => PV.tup [.str q.1, .int q.2]) ?_ ?_ _ _ _ ⟨h0, h2, [], _, rfl, rfl, [], rfl, (fun i hi => by cases hi), rfl⟩
  · rintro acc τ ⟨e0, e2, u, v, h, h', is, hl, hi, rfl⟩
    have hv : v = [] := by cases v with
      | nil => rfl
      | cons _ _ => cases h'
    subst hv
    rw [List.append_nil] at h
    subst h
    simp only [pairs_ok]
    have hk := pair_keys (u := bs ++ [("unused" : Str)]) hl
    have hm : dmergeP [] (pairV (bs ++ [("unused" : Str)]) is) = pairV (bs ++ [("unused" : Str)]) is := by
      rw [dmerge_new _ _ (by rw [List.nil_append, hk]; exact inr_nodup nd), List.nil_append]
    have hlen : (pairV (bs ++ [("unused" : Str)]) is).length = bs.length + 1 := by
      have := congrArg List.length hk
      rw [List.length_map, List.length_map, List.length_append] at this
      exact this
    have hzl : ((bs ++ [("unused" : Str)]).zip is).length = bs.length + 1 := by unfold pairV at hlen; rwa [List.length_map] at hlen
    rw [hm, res_dr e0, List.length_map, hzl]
    refine q _ ⟨⟨by omega, by have := hb.len.2; omega⟩, by rw [hk]; exact inr_nodup nd, fun kv hkv => ?_⟩ hk
    obtain ⟨⟨a, i⟩, hq, rfl⟩ := List.mem_map.mp hkv
    obtain ⟨ha, hi'⟩ := List.of_mem_zip hq
    exact ⟨a, i, rfl, nm a ha, (hi i hi').1, by have := (hi i hi').2; omega⟩
  · rintro x r acc τ ⟨e0, e2, u, v, h, h', is, hl, hi, ha⟩
    cases v with
    | nil => cases h'
    | cons b v =>
      cases h'
      refine ⟨_, rfl, fun R hR => ?_⟩
      simp only [vItems, Vl.pairP, vIndex, isLP, sortP, ssetP, int2P, joinP, vScr, vCallW, permL, List.filterMap_cons, List.filterMap_nil, vVar, vC, vNil, vCons, fz, vOp, vB, vAnd, vOr, vNot, vAndV, vOrV, vNotV, vIf, bP, vChain, vCB, rdL, vTup, vLst, tkL, vDict0, vNo, vSome, slP, vSl, vRev, vNeg, vIsi2, rd, giv, Vl.tk, vset_ap, eqB, neB, ordB, isB, isNonP, inB, Vl.addP, intP, mulP, ixP, lenP, absP, intCP, listP, tupP, dictP, isiP, tyP, keyP, vNext, vDrop, vRet, vRetN, vIfS, vBreak, vCont, vSet, vAsg, fvN, fvNil, fvCons, fvT, vPar, vIt, itP, vRg1, vRg2, vEnum, vZip, vFor, vForD, vdV, vdF, vLc, vLcD, vYes, vDc, vCall, vCallN, vApp, argV, slA, argS, Vl.cellOf, backV, conS, List.map_nil, List.map_cons, List.append_nil, List.cons_append, List.nil_append, List.length_cons, List.length_nil, List.mem_cons, List.not_mem_nil, List.getElem?_cons_zero, List.getElem?_cons_succ, List.getElem?_nil, or_false, List.nodup_nil, List.nodup_cons, not_false_eq_true, vMut, kdL, appP, extP, popP, insP, vUpd, owD, kdD, vStore, vGet1, vGet2, isDP, vPNil, vPCons, vDisp, vMeth, InsR, vProp, InsQ, vFld, putP, vFldS, vMake, vMakeN, slotsOf_nil, slotsOf_cons, vdel, endsV, endsL, resS, Option.isSome_some, reduceIte, Option.bind_some, true_and, and_true, Nat.reduceEqDiff, Nat.one_ne_zero, Nat.zero_ne_one, not_true_eq_false, false_and, and_false, if_true, if_false, Nat.zero_add, Nat.add_zero, e0, e2, vTake]
      have hul : u.length + (v.length + 1) = bs.length + 1 := by
        have := congrArg List.length h
        simpa using this.symm
      have hal : acc.length = u.length := by rw [ha, List.length_map, List.length_zip, hl, Nat.min_self]
      have hb5 := hb.len.2
      refine ⟨_, k, rfl, rfl, ⟨by omega, by omega⟩, by omega, fun i i1 i2 => ?_⟩
      simp only [vItems, Vl.pairP, vIndex, isLP, sortP, ssetP, int2P, joinP, vScr, vCallW, permL, List.filterMap_cons, List.filterMap_nil, vVar, vC, vNil, vCons, fz, vOp, vB, vAnd, vOr, vNot, vAndV, vOrV, vNotV, vIf, bP, vChain, vCB, rdL, vTup, vLst, tkL, vDict0, vNo, vSome, slP, vSl, vRev, vNeg, vIsi2, rd, giv, Vl.tk, vset_ap, eqB, neB, ordB, isB, isNonP, inB, Vl.addP, intP, mulP, ixP, lenP, absP, intCP, listP, tupP, dictP, isiP, tyP, keyP, vNext, vDrop, vRet, vRetN, vIfS, vBreak, vCont, vSet, vAsg, fvN, fvNil, fvCons, fvT, vPar, vIt, itP, vRg1, vRg2, vEnum, vZip, vFor, vForD, vdV, vdF, vLc, vLcD, vYes, vDc, vCall, vCallN, vApp, argV, slA, argS, Vl.cellOf, backV, conS, List.map_nil, List.map_cons, List.append_nil, List.cons_append, List.nil_append, List.length_cons, List.length_nil, List.mem_cons, List.not_mem_nil, List.getElem?_cons_zero, List.getElem?_cons_succ, List.getElem?_nil, or_false, List.nodup_nil, List.nodup_cons, not_false_eq_true, vMut, kdL, appP, extP, popP, insP, vUpd, owD, kdD, vStore, vGet1, vGet2, isDP, vPNil, vPCons, vDisp, vMeth, InsR, vProp, InsQ, vFld, putP, vFldS, vMake, vMakeN, slotsOf_nil, slotsOf_cons, vdel, endsV, endsL, resS, Option.isSome_some, reduceIte, Option.bind_some, true_and, and_true, Nat.reduceEqDiff, Nat.one_ne_zero, Nat.zero_ne_one, not_true_eq_false, false_and, and_false, if_true, if_false, Nat.zero_add, Nat.add_zero, drS, conS]
      refine ⟨zr (by decide), by rw [sizeLine_eq]; omega, hR _ _ ⟨?_, ?_, u ++ [b], v, by rw [h]; simp, rfl, is ++ [i], by simp [hl], ?_, ?_⟩⟩
      · simp [vset, vdel, Nat.add_assoc]
      · simpa [vset, vdel] using e2
      · intro j hj
        rcases List.mem_append.mp hj with z | z
        · exact hi j z
        · rw [List.mem_singleton.mp z]; exact ⟨i1, i2⟩
      · rw [ha, List.zip_append hl.symm]
        simp

end K17
namespace K17
open PySem PySem.Spec PyProof.Rows L2 Dv Vl
variable {P : Program} {w : World} {K : Fr0} {mg : Str → Option Value} {base : Heap}
/-! ### the element of a walk, read off from its end -/
/-- what stands behind the last focus -/
def aft (fo : Str) (bs : List Str) : List Str := (bs.reverse.takeWhile fun b => decide (b ≠ fo)).reverse
noncomputable def other (kvs : List (Key × PV)) (fo b : Str) : Bool := decide (b ≠ fo) && decide (dgetP kvs (.inr b) = dgetP kvs (.inr fo))
noncomputable def dueE (kvs : List (Key × PV)) (fo : Str) (bs : List Str) : El := ⟨decide (fo ∈ bs), srt ((aft fo bs).filter (other kvs fo))⟩
theorem aft_snoc {fo b : Str} {u : List Str} : aft fo (u ++ [b]) = if b = fo then [] else aft fo u ++ [b] := by
  unfold aft
  rw [List.reverse_append]
  by_cases h : b = fo
  · simp [h]
  · simp [h]
theorem snoc_ind {C : List Str → Prop} (h0 : C []) (h1 : ∀ u b, C u → C (u ++ [b])) (bs : List Str) : C bs := by
  have : ∀ l : List Str, C l.reverse := by
    intro l
    induction l with
    | nil => exact h0
    | cons b l ih => rw [List.reverse_cons]; exact h1 _ b ih
  have h := this bs.reverse
  rwa [List.reverse_reverse] at h
theorem srt_srt (a b : List Str) : srt (srt a ++ b) = srt (a ++ b) := ss_ext (srt_ss _) (srt_ss _) fun y => by simp only [srt_mem, List.mem_append]
theorem elem_due {kvs : List (Key × PV)} {fo : Str} (bs : List Str) : elemOf kvs fo bs = dueE kvs fo bs := by
  refine snoc_ind (C := fun bs => elemOf kvs fo bs = dueE kvs fo bs) ?_ (fun u b ih => ?_) bs
  · rfl
  · rw [elem_snoc, ih]
    unfold dueE
    rw [aft_snoc]
    by_cases h : b = fo
    · subst h
      simp [touch, tms, srt]
    · by_cases h2 : dgetP kvs (.inr b) = dgetP kvs (.inr fo)
      · have : other kvs fo b = true := by simp [other, h, h2]
        simp [touch, tms, h, h2, Ne.symm h, List.filter_append, this, srt_srt]
      · have : other kvs fo b = false := by simp [other, h, h2]
        simp [touch, tms, h, h2, Ne.symm h, List.filter_append, this, nothing]
        rw [srt_same (srt_ss _)]
/-- the first place in the turned list cuts it off -/
theorem tw_take {fo : Str} : ∀ l : List Str, (l.takeWhile fun b => decide (b ≠ fo)) = l.take (l.idxOf fo)
  | [] => rfl
  | b :: l => by
    by_cases h : b = fo
    · subst h
      simp
    · have hb : (b == fo) = false := beq_eq_false_iff_ne.mpr h
      have hd : decide (b ≠ fo) = true := decide_eq_true h
      rw [List.idxOf_cons, hb]
      simp only [List.takeWhile_cons, hd, if_true, tw_take l]
      rfl
theorem aft_cut {fo : Str} {bs : List Str} : aft fo bs = bs.drop (bs.length - bs.reverse.idxOf fo) := by
  unfold aft
  rw [tw_take, List.reverse_take, List.reverse_reverse, List.length_reverse]
theorem aft_all {fo : Str} {bs : List Str} (h : fo ∉ bs) : aft fo bs = bs := by
  unfold aft
  have e : ∀ l : List Str, (∀ x ∈ l, x ≠ fo) → (l.takeWhile fun b => decide (b ≠ fo)) = l := by
    intro l
    induction l with
    | nil => intro _; rfl
    | cons a l ih =>
      intro hl
      have hd : decide (a ≠ fo) = true := decide_eq_true (hl a List.mem_cons_self)
      simp only [List.takeWhile_cons, hd, if_true, ih fun x hx => hl x (List.mem_cons_of_mem _ hx)]
  rw [e _ fun x hx z => h (by rw [← z]; exact List.mem_reverse.mp hx), List.reverse_reverse]
theorem mem_str {x : Str} {l : List Str} : (PV.str x ∈ l.map PV.str) = (x ∈ l) := by simp
theorem in_ok {l : List Str} {x : Str} (h : ∀ s ∈ l, PyData.strOk s = true) (hx : PyData.strOk x = true) : okP (PV.str x) = true ∧ dpP (PV.str x) ≤ 62 ∧ ∀ y ∈ l.map PV.str, okP y = true ∧ cpP y (PV.str x) = true ∧ dpP y ≤ 61 :=
  ⟨hx, Nat.zero_le _, fun y hy => by
    obtain ⟨s, hs, rfl⟩ := List.mem_map.mp hy
    exact ⟨h s hs, by simp [cpP], Nat.zero_le _⟩⟩
theorem aft_sub {fo : Str} {bs : List Str} : ∀ b ∈ aft fo bs, b ∈ bs := fun b hb => by
  rw [aft_cut] at hb
  exact List.mem_of_mem_drop hb
theorem aft_len {fo : Str} {bs : List Str} : (aft fo bs).length ≤ bs.length := by
  rw [aft_cut, List.length_drop]
  exact Nat.sub_le _ _
theorem dueE_ok {kvs : List (Key × PV)} {fo : Str} {bs : List Str} (hs : LayP kvs) (h : ∀ b ∈ bs, (.inr b : Key) ∈ kvs.map (·.1)) : ElOk bs.length (dueE kvs fo bs) := elem_due (kvs := kvs) (fo := fo) bs ▸ elemOf_ok hs h
def vDue : SpV := fun σ Ψ _ => ∃ kvs bs fo, σ 0 = some (.fr (.dic kvs)) ∧ σ 1 = some (.fr (.lst (bs.map PV.str))) ∧ σ 2 = some (.fr (.str fo)) ∧ LayP kvs ∧ (.inr fo : Key) ∈ kvs.map (·.1) ∧ (∀ b ∈ bs, (.inr b : Key) ∈ kvs.map (·.1)) ∧ bs.length ≤ 400 ∧ Ψ (.fr (elV (dueE kvs fo bs))) nilS
theorem sc__law_due : FnScope ["_law_plan", "_law_seen", "_law_eye", "_law_behind", "_law_others", "_law_one"] ["_law_plan", "_law_seen", "_law_eye"] (defScope (top 35)) := ⟨rfl, rfl, rfl, by decide +kernel, rfl, by decide +kernel, by decide +kernel⟩

theorem kv__law_due (V : Env K mg) : KnV P w K mg base 1 "_law_due" 3 [] vDue := by
  refine knv_of (io := []) V.d__law_due sc__law_due rfl (by decide) fun f cdv A outer s H E en hr => ⟨_, (evss_cons (evs_set (j := 3) sc__law_due.nd rfl (by first | exact .inl rfl | exact .inr rfl) (ev_cb (fun _ h => b_listE V.b_list h) cv_list (eva_cons (ev_var (e_var 1)) eva_nil))) (evss_cons (evs_if (evt_op (fun _ _ h k => et_cmp (o_in hr.u65) h k) ob_in.v (ev_var (e_var 2)) (ev_var (e_var 1))) (evss_one (evs_set (j := 3) sc__law_due.nd rfl (by first | exact .inl rfl | exact .inr rfl) (ev_slice (ev_var (e_var 3)) (evo_some (ev_op (fun _ _ h k => e_bin o_sub h k) ov_int (ev_cb (fun _ h => b_lenE V.b_len h) cv_len (eva_cons (ev_var (e_var 1)) eva_nil)) (ev_index (fun _ _ h k => e_index h (ea_cons k ea_nil)) (ev_rev (ev_var (e_var 1))) (ev_var (e_var 2))))) evo_none))) evss_nil) (evss_cons (evs_setLc (j := 4) [("_law_one", 5)] sc__law_due.nd (evi_val (ev_var (e_var 3))) (fun _ _ _ _ _ => (gv_name (j := 5) sc__law_due.nd rfl (by first | exact .inl rfl | exact .inr rfl))) (fun _ _ _ _ _ => (evts_one (evt_w (evw_and (evt_op (fun _ _ h k => et_cmp (o_ne hr.u64) h k) ob_ne.v (ev_var (e_var 5)) (ev_var (e_var 2))) (evw_and1 (evt_op (fun _ _ h k => et_cmp (o_eq hr.u64) h k) ob_eq.v (ev_op (fun _ _ h k => e_ix hr.u1 h k (fun _ _ => rfl)) ov_ix (ev_var (e_var 0)) (ev_var (e_var 5))) (ev_op (fun _ _ h k => e_ix hr.u1 h k (fun _ _ => rfl)) ov_ix (ev_var (e_var 0)) (ev_var (e_var 2))))))))) (fun _ _ _ _ _ => (ev_var (e_var 5))) only_name) (evss_one (evs_ret (ev_tup (eva_cons (ev_op (fun _ _ h k => e_cmp (o_in hr.u65) h k) ob_in.v (ev_var (e_var 2)) (ev_var (e_var 1))) (eva_cons (ev_cb (fun _ h => b_tupleE V.b_tuple h) cv_tup (eva_cons (ev_cb (fun _ h => b_ssetE V.b_sorted V.b_set h) cv_sset (eva_cons (ev_var (e_var 4)) eva_nil)) eva_nil)) eva_nil)))))))), ?_⟩
  rintro σ Ψ ΨE ⟨kvs, bs, fo, h0, h1, h2, hs, mf, mb, hl, q⟩
  have hok : ∀ s ∈ bs, PyData.strOk s = true := fun s hs' => name_ok (lay_get hs (mb s hs')).1
  have hfo : PyData.strOk fo = true := name_ok (lay_get hs mf).1
  refine vsq1 (σ1 := vset σ 3 (some (.ow (.lst (bs.map PV.str))))) (fun R hR => ?_) ?_
  · simp only [vItems, Vl.pairP, vIndex, isLP, sortP, ssetP, int2P, joinP, vScr, vCallW, permL, List.filterMap_cons, List.filterMap_nil, vVar, vC, vNil, vCons, fz, vOp, vB, vAnd, vOr, vNot, vAndV, vOrV, vNotV, vIf, bP, vChain, vCB, rdL, vTup, vLst, tkL, vDict0, vNo, vSome, slP, vSl, vRev, vNeg, vIsi2, rd, giv, Vl.tk, vset_ap, eqB, neB, ordB, isB, isNonP, inB, Vl.addP, intP, mulP, ixP, lenP, absP, intCP, listP, tupP, dictP, isiP, tyP, keyP, vNext, vDrop, vRet, vRetN, vIfS, vBreak, vCont, vSet, vAsg, fvN, fvNil, fvCons, fvT, vPar, vIt, itP, vRg1, vRg2, vEnum, vZip, vFor, vForD, vdV, vdF, vLc, vLcD, vYes, vDc, vCall, vCallN, vApp, argV, slA, argS, Vl.cellOf, backV, conS, List.map_nil, List.map_cons, List.append_nil, List.cons_append, List.nil_append, List.length_cons, List.length_nil, List.mem_cons, List.not_mem_nil, List.getElem?_cons_zero, List.getElem?_cons_succ, List.getElem?_nil, or_false, List.nodup_nil, List.nodup_cons, not_false_eq_true, vMut, kdL, appP, extP, popP, insP, vUpd, owD, kdD, vStore, vGet1, vGet2, isDP, vPNil, vPCons, vDisp, vMeth, InsR, vProp, InsQ, vFld, putP, vFldS, vMake, vMakeN, slotsOf_nil, slotsOf_cons, vdel, endsV, endsL, resS, Option.isSome_some, reduceIte, Option.bind_some, true_and, and_true, Nat.reduceEqDiff, Nat.one_ne_zero, Nat.zero_ne_one, not_true_eq_false, false_and, and_false, if_true, if_false, Nat.zero_add, Nat.add_zero, h1]
    exact hR
  refine vsq (M := fun τ => τ 0 = some (.fr (.dic kvs)) ∧ τ 1 = some (.fr (.lst (bs.map PV.str))) ∧ τ 2 = some (.fr (.str fo)) ∧ τ 3 = some (.ow (.lst ((aft fo bs).map PV.str)))) ?_ fun R hR => ?_
  rotate_left
  · simp only [vItems, Vl.pairP, vIndex, isLP, sortP, ssetP, int2P, joinP, vScr, vCallW, permL, List.filterMap_cons, List.filterMap_nil, vVar, vC, vNil, vCons, fz, vOp, vB, vAnd, vOr, vNot, vAndV, vOrV, vNotV, vIf, bP, vChain, vCB, rdL, vTup, vLst, tkL, vDict0, vNo, vSome, slP, vSl, vRev, vNeg, vIsi2, rd, giv, Vl.tk, vset_ap, eqB, neB, ordB, isB, isNonP, inB, Vl.addP, intP, mulP, ixP, lenP, absP, intCP, listP, tupP, dictP, isiP, tyP, keyP, vNext, vDrop, vRet, vRetN, vIfS, vBreak, vCont, vSet, vAsg, fvN, fvNil, fvCons, fvT, vPar, vIt, itP, vRg1, vRg2, vEnum, vZip, vFor, vForD, vdV, vdF, vLc, vLcD, vYes, vDc, vCall, vCallN, vApp, argV, slA, argS, Vl.cellOf, backV, conS, List.map_nil, List.map_cons, List.append_nil, List.cons_append, List.nil_append, List.length_cons, List.length_nil, List.mem_cons, List.not_mem_nil, List.getElem?_cons_zero, List.getElem?_cons_succ, List.getElem?_nil, or_false, List.nodup_nil, List.nodup_cons, not_false_eq_true, vMut, kdL, appP, extP, popP, insP, vUpd, owD, kdD, vStore, vGet1, vGet2, isDP, vPNil, vPCons, vDisp, vMeth, InsR, vProp, InsQ, vFld, putP, vFldS, vMake, vMakeN, slotsOf_nil, slotsOf_cons, vdel, endsV, endsL, resS, Option.isSome_some, reduceIte, Option.bind_some, true_and, and_true, Nat.reduceEqDiff, Nat.one_ne_zero, Nat.zero_ne_one, not_true_eq_false, false_and, and_false, if_true, if_false, Nat.zero_add, Nat.add_zero, h1, h2]
    refine ⟨in_ok hok hfo, ?_⟩
    simp only [Bool.false_eq_true, if_false, mem_str, decide_eq_true_eq]
    split
    · rename_i hm
      refine ⟨bs.reverse, by rw [List.map_reverse], List.mem_reverse.mpr hm, ?_⟩
      have hlt := List.idxOf_lt_length_of_mem (List.mem_reverse.mpr hm)
      rw [List.length_reverse] at hlt
      have e : ((bs.map PV.str).length : Int) - (bs.reverse.idxOf fo : Nat) = ((bs.length - bs.reverse.idxOf fo : Nat) : Int) := by rw [List.length_map]; omega
      rw [e, cut_from, ← List.map_drop, ← aft_cut]
      exact hR _ ⟨by simpa [vset] using h0, by simpa [vset] using h1, by simpa [vset] using h2, by simp [vset]⟩
    · rename_i hm
      exact hR _ ⟨by simpa [vset] using h0, by simpa [vset] using h1, by simpa [vset] using h2, by simp [vset, aft_all hm]⟩
  clear h0 h1 h2
  rintro τ0 ⟨h0, h1, h2, h3⟩
  refine vsq (M := fun τ => τ 0 = some (.fr (.dic kvs)) ∧ τ 1 = some (.fr (.lst (bs.map PV.str))) ∧ τ 2 = some (.fr (.str fo)) ∧ τ 4 = some (.ow (.lst (((aft fo bs).filter (other kvs fo)).map PV.str)))) ?_ fun R hR => ?_
  · rintro τ ⟨e0, e1, e2, e4⟩
    simp only [vItems, Vl.pairP, vIndex, isLP, sortP, ssetP, int2P, joinP, vScr, vCallW, permL, List.filterMap_cons, List.filterMap_nil, vVar, vC, vNil, vCons, fz, vOp, vB, vAnd, vOr, vNot, vAndV, vOrV, vNotV, vIf, bP, vChain, vCB, rdL, vTup, vLst, tkL, vDict0, vNo, vSome, slP, vSl, vRev, vNeg, vIsi2, rd, giv, Vl.tk, vset_ap, eqB, neB, ordB, isB, isNonP, inB, Vl.addP, intP, mulP, ixP, lenP, absP, intCP, listP, tupP, dictP, isiP, tyP, keyP, vNext, vDrop, vRet, vRetN, vIfS, vBreak, vCont, vSet, vAsg, fvN, fvNil, fvCons, fvT, vPar, vIt, itP, vRg1, vRg2, vEnum, vZip, vFor, vForD, vdV, vdF, vLc, vLcD, vYes, vDc, vCall, vCallN, vApp, argV, slA, argS, Vl.cellOf, backV, conS, List.map_nil, List.map_cons, List.append_nil, List.cons_append, List.nil_append, List.length_cons, List.length_nil, List.mem_cons, List.not_mem_nil, List.getElem?_cons_zero, List.getElem?_cons_succ, List.getElem?_nil, or_false, List.nodup_nil, List.nodup_cons, not_false_eq_true, vMut, kdL, appP, extP, popP, insP, vUpd, owD, kdD, vStore, vGet1, vGet2, isDP, vPNil, vPCons, vDisp, vMeth, InsR, vProp, InsQ, vFld, putP, vFldS, vMake, vMakeN, slotsOf_nil, slotsOf_cons, vdel, endsV, endsL, resS, Option.isSome_some, reduceIte, Option.bind_some, true_and, and_true, Nat.reduceEqDiff, Nat.one_ne_zero, Nat.zero_ne_one, not_true_eq_false, false_and, and_false, if_true, if_false, Nat.zero_add, Nat.add_zero, e1, e2, e4]
    refine ⟨in_ok hok hfo, _, rfl, ?_, fun ys y1 y2 y3 y4 => ⟨zr (by decide), ?_⟩⟩
    · exact Nat.le_trans (List.length_filter_le _ _) (Nat.le_trans aft_len (by omega))
    · simp only [Bool.false_eq_true, if_false, mem_str, res_nil]
      rw [srt_of y1 y2 y3]
      exact q
  · simp only [vItems, Vl.pairP, vIndex, isLP, sortP, ssetP, int2P, joinP, vScr, vCallW, permL, List.filterMap_cons, List.filterMap_nil, vVar, vC, vNil, vCons, fz, vOp, vB, vAnd, vOr, vNot, vAndV, vOrV, vNotV, vIf, bP, vChain, vCB, rdL, vTup, vLst, tkL, vDict0, vNo, vSome, slP, vSl, vRev, vNeg, vIsi2, rd, giv, Vl.tk, vset_ap, eqB, neB, ordB, isB, isNonP, inB, Vl.addP, intP, mulP, ixP, lenP, absP, intCP, listP, tupP, dictP, isiP, tyP, keyP, vNext, vDrop, vRet, vRetN, vIfS, vBreak, vCont, vSet, vAsg, fvN, fvNil, fvCons, fvT, vPar, vIt, itP, vRg1, vRg2, vEnum, vZip, vFor, vForD, vdV, vdF, vLc, vLcD, vYes, vDc, vCall, vCallN, vApp, argV, slA, argS, Vl.cellOf, backV, conS, List.map_nil, List.map_cons, List.append_nil, List.cons_append, List.nil_append, List.length_cons, List.length_nil, List.mem_cons, List.not_mem_nil, List.getElem?_cons_zero, List.getElem?_cons_succ, List.getElem?_nil, or_false, List.nodup_nil, List.nodup_cons, not_false_eq_true, vMut, kdL, appP, extP, popP, insP, vUpd, owD, kdD, vStore, vGet1, vGet2, isDP, vPNil, vPCons, vDisp, vMeth, InsR, vProp, InsQ, vFld, putP, vFldS, vMake, vMakeN, slotsOf_nil, slotsOf_cons, vdel, endsV, endsL, resS, Option.isSome_some, reduceIte, Option.bind_some, true_and, and_true, Nat.reduceEqDiff, Nat.one_ne_zero, Nat.zero_ne_one, not_true_eq_false, false_and, and_false, if_true, if_false, Nat.zero_add, Nat.add_zero, h3]
    refine lcV_ind (I := fun r acc τ => τ 0 = some (.fr (.dic kvs)) ∧ τ 1 = some (.fr (.lst (bs.map PV.str))) ∧ τ 2 = some (.fr (.str fo)) ∧ ∃ u v, aft fo bs = u ++ v ∧ r = v.map PV.str ∧ acc = (u.filter (other kvs fo)).map PV.str) ?_ ?_ _ _ _ ?_
    · rintro acc τ ⟨e0, e1, e2, u, v, h, h', rfl⟩
      cases v with
      | cons _ _ => cases h'
      | nil =>
        rw [List.append_nil] at h
        exact hR _ ⟨by simpa [vset] using e0, by simpa [vset] using e1, by simpa [vset] using e2, by simp [vset, h]⟩
    · rintro x r acc τ ⟨e0, e1, e2, u, v, h, h', ha⟩
      cases v with
      | nil => cases h'
      | cons b v =>
        cases h'
        refine ⟨_, rfl, fun R hR => ?_⟩
        have hbs := aft_sub b (by rw [h]; simp)
        obtain ⟨_, i, ei⟩ := lay_get hs mf
        obtain ⟨_, j, ej⟩ := lay_get hs (mb b hbs)
        have hal := aft_len (fo := fo) (bs := bs)
        rw [h, List.length_append] at hal
        have acl : acc.length < sizeLine := by
          rw [ha, List.length_map, sizeLine_eq]
          have := List.length_filter_le (other kvs fo) u
          omega
        have fin : ∀ bb : Bool, other kvs fo b = bb → ∀ τ' : SV, τ' 0 = some (.fr (.dic kvs)) ∧ τ' 1 = some (.fr (.lst (bs.map PV.str))) ∧ τ' 2 = some (.fr (.str fo)) → R (acc ++ (if bb = true then [PV.str b] else [])) τ' := fun bb hbb τ' ht =>
          hR _ _ ⟨by simpa [vdel, vset] using ht.1, by simpa [vdel, vset] using ht.2.1, by simpa [vdel, vset] using ht.2.2, u ++ [b], v, by rw [h]; simp, rfl, by
            rw [ha, List.filter_append, List.map_append]
            cases bb <;> simp [hbb]⟩
        have ho : other kvs fo b = (decide (b ≠ fo) && decide (PV.int j = PV.int i)) := by
          unfold other
          rw [ei, ej]
          simp
        simp only [vItems, Vl.pairP, vIndex, isLP, sortP, ssetP, int2P, joinP, vScr, vCallW, permL, List.filterMap_cons, List.filterMap_nil, vVar, vC, vNil, vCons, fz, vOp, vB, vAnd, vOr, vNot, vAndV, vOrV, vNotV, vIf, bP, vChain, vCB, rdL, vTup, vLst, tkL, vDict0, vNo, vSome, slP, vSl, vRev, vNeg, vIsi2, rd, giv, Vl.tk, vset_ap, eqB, neB, ordB, isB, isNonP, inB, Vl.addP, intP, mulP, ixP, lenP, absP, intCP, listP, tupP, dictP, isiP, tyP, keyP, vNext, vDrop, vRet, vRetN, vIfS, vBreak, vCont, vSet, vAsg, fvN, fvNil, fvCons, fvT, vPar, vIt, itP, vRg1, vRg2, vEnum, vZip, vFor, vForD, vdV, vdF, vLc, vLcD, vYes, vDc, vCall, vCallN, vApp, argV, slA, argS, Vl.cellOf, backV, conS, List.map_nil, List.map_cons, List.append_nil, List.cons_append, List.nil_append, List.length_cons, List.length_nil, List.mem_cons, List.not_mem_nil, List.getElem?_cons_zero, List.getElem?_cons_succ, List.getElem?_nil, or_false, List.nodup_nil, List.nodup_cons, not_false_eq_true, vMut, kdL, appP, extP, popP, insP, vUpd, owD, kdD, vStore, vGet1, vGet2, isDP, vPNil, vPCons, vDisp, vMeth, InsR, vProp, InsQ, vFld, putP, vFldS, vMake, vMakeN, slotsOf_nil, slotsOf_cons, vdel, endsV, endsL, resS, Option.isSome_some, reduceIte, Option.bind_some, true_and, and_true, Nat.reduceEqDiff, Nat.one_ne_zero, Nat.zero_ne_one, not_true_eq_false, false_and, and_false, if_true, if_false, Nat.zero_add, Nat.add_zero, e0, e2, ei, ej]
        refine ⟨.inl rfl, ?_⟩
        have keep : (vset (vset τ 5 none) 5 (some (Cell.fr (PV.str b)))) 0 = some (.fr (.dic kvs)) ∧ (vset (vset τ 5 none) 5 (some (Cell.fr (PV.str b)))) 1 = some (.fr (.lst (bs.map PV.str))) ∧ (vset (vset τ 5 none) 5 (some (Cell.fr (PV.str b)))) 2 = some (.fr (.str fo)) :=
          ⟨by simpa [vset] using e0, by simpa [vset] using e1, by simpa [vset] using e2⟩
        by_cases hbf : b = fo
        · have hf : other kvs fo b = false := by rw [ho, decide_eq_false (fun z => z hbf), Bool.false_and]
          have hd : decide (PV.str b = PV.str fo) = true := decide_eq_true (by rw [hbf])
          simp only [hd, Bool.not_true, Bool.false_eq_true, if_false]
          simpa using fin false hf _ keep
        · have hd : decide (PV.str b = PV.str fo) = false := decide_eq_false fun z => hbf (PV.str.inj z)
          simp only [hd, Bool.not_false, if_true]
          refine ⟨.inl rfl, ?_⟩
          by_cases hji : PV.int j = PV.int i
          · have hf : other kvs fo b = true := by rw [ho, decide_eq_true hji, Bool.and_true]; exact decide_eq_true hbf
            simp only [hji, decide_true, if_true]
            exact ⟨acl, by simpa using fin true hf _ keep⟩
          · have hf : other kvs fo b = false := by rw [ho, decide_eq_false hji, Bool.and_false]
            simp only [decide_eq_false hji, Bool.false_eq_true, if_false]
            simpa using fin false hf _ keep
    · exact ⟨by simpa [vset] using h0, by simpa [vset] using h1, by simpa [vset] using h2, [], _, rfl, rfl, rfl⟩
end K17
namespace K17
open PySem PySem.Spec PyProof.Rows L2 Dv Vl
variable {P : Program} {w : World} {K : Fr0} {mg : Str → Option Value} {base : Heap}
theorem srt_count {os l : List Str} (nd : os.Nodup) (h : ∀ y, y ∈ os ↔ y ∈ l) : (srt l).length = os.length :=
  ((List.perm_ext_iff_of_nodup (ss_nodup (srt_ss l)) nd).mpr fun y => by rw [srt_mem, h]).length_eq
theorem tw_app {fo : Str} {u v : List Str} (h : fo ∉ u) : ((u ++ fo :: v).takeWhile fun b => decide (b ≠ fo)) = u := by
  induction u with
  | nil => simp
  | cons a u ih =>
    have hd : decide (a ≠ fo) = true := decide_eq_true fun z => h (by rw [z]; exact List.mem_cons_self)
    simp only [List.cons_append, List.takeWhile_cons, hd, if_true]
    rw [ih fun z => h (List.mem_cons_of_mem _ z)]
theorem due_since {kvs : List (Key × PV)} {fo : Str} {bs u v os : List Str} (e : bs.reverse = u ++ fo :: v) (hu : fo ∉ u) (nd : os.Nodup) (hm : ∀ y, y ∈ os ↔ y ∈ u ∧ other kvs fo y = true) : gapV (dueE kvs fo bs) = .tup [.str "since", .int (os.length : Int)] := by
  have ha : aft fo bs = u.reverse := by unfold aft; rw [e, tw_app hu]
  have hf : fo ∈ bs := List.mem_reverse.mp (by rw [e]; simp)
  have hc := srt_count (os := os) (l := (aft fo bs).filter (other kvs fo)) nd fun y => by rw [ha, List.mem_filter, List.mem_reverse, hm]
  simp only [gapV, dueE, hf, decide_true, if_true, hc]
theorem due_start {kvs : List (Key × PV)} {fo : Str} {bs os : List Str} (hu : fo ∉ bs) (nd : os.Nodup) (hm : ∀ y, y ∈ os ↔ y ∈ bs ∧ other kvs fo y = true) : gapV (dueE kvs fo bs) = .tup [.str "start", .int (os.length : Int)] := by
  have hc := srt_count (os := os) (l := (aft fo bs).filter (other kvs fo)) nd fun y => by rw [aft_all hu, List.mem_filter, hm]
  simp only [gapV, dueE, decide_eq_false hu, Bool.false_eq_true, if_false, hc]
def vDist : SpV := fun σ Ψ _ => ∃ kvs bs fo, σ 0 = some (.fr (.dic kvs)) ∧ σ 1 = some (.fr (.lst (bs.map PV.str))) ∧ σ 2 = some (.fr (.str fo)) ∧ LayP kvs ∧ (.inr fo : Key) ∈ kvs.map (·.1) ∧ (∀ b ∈ bs, (.inr b : Key) ∈ kvs.map (·.1)) ∧ bs.length ≤ 400 ∧ Ψ (.fr (gapV (dueE kvs fo bs))) nilS
theorem sc__law_distance : FnScope ["_law_plan", "_law_seen", "_law_block", "_law_others", "_law_one"] ["_law_plan", "_law_seen", "_law_block"] (defScope (top 34)) := ⟨rfl, rfl, rfl, by decide +kernel, rfl, by decide +kernel, by decide +kernel⟩

theorem kv__law_distance (V : Env K mg) : KnV P w K mg base 1 "_law_distance" 3 [] vDist := by
  refine knv_of (io := []) V.d__law_distance sc__law_distance rfl (by decide) fun f cdv A outer s H E en hr => ⟨_, (evss_cons (evs_set (j := 3) sc__law_distance.nd rfl (by first | exact .inl rfl | exact .inr rfl) (ev_lst eva_nil)) (evss_cons (evs_for (passes_of rfl) rfl (evi_val (ev_rev (ev_var (e_var 1)))) (gv_name (j := 4) sc__law_distance.nd rfl (by first | exact .inl rfl | exact .inr rfl)) (evss_cons (evs_if (evt_op (fun _ _ h k => et_cmp (o_eq hr.u64) h k) ob_eq.v (ev_var (e_var 4)) (ev_var (e_var 2))) (evss_one (evs_ret (ev_tup (eva_cons ev_str (eva_cons (ev_cb (fun _ h => b_lenE V.b_len h) cv_len (eva_cons (ev_var (e_var 3)) eva_nil)) eva_nil))))) evss_nil) (evss_one (evs_if (evt_w (evw_and (evt_op (fun _ _ h k => et_cmp (o_eq hr.u64) h k) ob_eq.v (ev_op (fun _ _ h k => e_ix hr.u1 h k (fun _ _ => rfl)) ov_ix (ev_var (e_var 0)) (ev_var (e_var 4))) (ev_op (fun _ _ h k => e_ix hr.u1 h k (fun _ _ => rfl)) ov_ix (ev_var (e_var 0)) (ev_var (e_var 2)))) (evw_and1 (evt_op (fun _ _ h k => et_cmp (o_notin hr.u65) h k) ob_in.v (ev_var (e_var 4)) (ev_var (e_var 3)))))) (evss_one (evs_expr (ev_mut (i := 3) (fun _ h => e_append (e_var 3) h) mv_append (eva_cons (ev_var (e_var 4)) eva_nil)))) evss_nil)))) (evss_one (evs_ret (ev_tup (eva_cons ev_str (eva_cons (ev_cb (fun _ h => b_lenE V.b_len h) cv_len (eva_cons (ev_var (e_var 3)) eva_nil)) eva_nil))))))), ?_⟩
  rintro σ Ψ ΨE ⟨kvs, bs, fo, h0, h1, h2, hs, mf, mb, hl, q⟩
  refine vsq1 (σ1 := vset σ 3 (some (.ow (.lst [])))) (fun R hR => ?_) ?_
  · simp only [vItems, Vl.pairP, vIndex, isLP, sortP, ssetP, int2P, joinP, vScr, vCallW, permL, List.filterMap_cons, List.filterMap_nil, vVar, vC, vNil, vCons, fz, vOp, vB, vAnd, vOr, vNot, vAndV, vOrV, vNotV, vIf, bP, vChain, vCB, rdL, vTup, vLst, tkL, vDict0, vNo, vSome, slP, vSl, vRev, vNeg, vIsi2, rd, giv, Vl.tk, vset_ap, eqB, neB, ordB, isB, isNonP, inB, Vl.addP, intP, mulP, ixP, lenP, absP, intCP, listP, tupP, dictP, isiP, tyP, keyP, vNext, vDrop, vRet, vRetN, vIfS, vBreak, vCont, vSet, vAsg, fvN, fvNil, fvCons, fvT, vPar, vIt, itP, vRg1, vRg2, vEnum, vZip, vFor, vForD, vdV, vdF, vLc, vLcD, vYes, vDc, vCall, vCallN, vApp, argV, slA, argS, Vl.cellOf, backV, conS, List.map_nil, List.map_cons, List.append_nil, List.cons_append, List.nil_append, List.length_cons, List.length_nil, List.mem_cons, List.not_mem_nil, List.getElem?_cons_zero, List.getElem?_cons_succ, List.getElem?_nil, or_false, List.nodup_nil, List.nodup_cons, not_false_eq_true, vMut, kdL, appP, extP, popP, insP, vUpd, owD, kdD, vStore, vGet1, vGet2, isDP, vPNil, vPCons, vDisp, vMeth, InsR, vProp, InsQ, vFld, putP, vFldS, vMake, vMakeN, slotsOf_nil, slotsOf_cons, vdel, endsV, endsL, resS, Option.isSome_some, reduceIte, Option.bind_some, true_and, and_true, Nat.reduceEqDiff, Nat.one_ne_zero, Nat.zero_ne_one, not_true_eq_false, false_and, and_false, if_true, if_false, Nat.zero_add, Nat.add_zero]
    exact ⟨zr (by decide), hR⟩
  refine vsq (M := fun τ => ∃ os : List Str, τ 3 = some (.ow (.lst (os.map PV.str))) ∧ gapV (dueE kvs fo bs) = .tup [.str "start", .int (os.length : Int)]) ?_ fun R hR => ?_
  · rintro τ ⟨os, e3, hg⟩
    simp only [vItems, Vl.pairP, vIndex, isLP, sortP, ssetP, int2P, joinP, vScr, vCallW, permL, List.filterMap_cons, List.filterMap_nil, vVar, vC, vNil, vCons, fz, vOp, vB, vAnd, vOr, vNot, vAndV, vOrV, vNotV, vIf, bP, vChain, vCB, rdL, vTup, vLst, tkL, vDict0, vNo, vSome, slP, vSl, vRev, vNeg, vIsi2, rd, giv, Vl.tk, vset_ap, eqB, neB, ordB, isB, isNonP, inB, Vl.addP, intP, mulP, ixP, lenP, absP, intCP, listP, tupP, dictP, isiP, tyP, keyP, vNext, vDrop, vRet, vRetN, vIfS, vBreak, vCont, vSet, vAsg, fvN, fvNil, fvCons, fvT, vPar, vIt, itP, vRg1, vRg2, vEnum, vZip, vFor, vForD, vdV, vdF, vLc, vLcD, vYes, vDc, vCall, vCallN, vApp, argV, slA, argS, Vl.cellOf, backV, conS, List.map_nil, List.map_cons, List.append_nil, List.cons_append, List.nil_append, List.length_cons, List.length_nil, List.mem_cons, List.not_mem_nil, List.getElem?_cons_zero, List.getElem?_cons_succ, List.getElem?_nil, or_false, List.nodup_nil, List.nodup_cons, not_false_eq_true, vMut, kdL, appP, extP, popP, insP, vUpd, owD, kdD, vStore, vGet1, vGet2, isDP, vPNil, vPCons, vDisp, vMeth, InsR, vProp, InsQ, vFld, putP, vFldS, vMake, vMakeN, slotsOf_nil, slotsOf_cons, vdel, endsV, endsL, resS, Option.isSome_some, reduceIte, Option.bind_some, true_and, and_true, Nat.reduceEqDiff, Nat.one_ne_zero, Nat.zero_ne_one, not_true_eq_false, false_and, and_false, if_true, if_false, Nat.zero_add, Nat.add_zero, e3]
    rw [List.length_map, ← hg, res_nil]
    exact ⟨zr (by decide), q⟩
  · simp only [vItems, Vl.pairP, vIndex, isLP, sortP, ssetP, int2P, joinP, vScr, vCallW, permL, List.filterMap_cons, List.filterMap_nil, vVar, vC, vNil, vCons, fz, vOp, vB, vAnd, vOr, vNot, vAndV, vOrV, vNotV, vIf, bP, vChain, vCB, rdL, vTup, vLst, tkL, vDict0, vNo, vSome, slP, vSl, vRev, vNeg, vIsi2, rd, giv, Vl.tk, vset_ap, eqB, neB, ordB, isB, isNonP, inB, Vl.addP, intP, mulP, ixP, lenP, absP, intCP, listP, tupP, dictP, isiP, tyP, keyP, vNext, vDrop, vRet, vRetN, vIfS, vBreak, vCont, vSet, vAsg, fvN, fvNil, fvCons, fvT, vPar, vIt, itP, vRg1, vRg2, vEnum, vZip, vFor, vForD, vdV, vdF, vLc, vLcD, vYes, vDc, vCall, vCallN, vApp, argV, slA, argS, Vl.cellOf, backV, conS, List.map_nil, List.map_cons, List.append_nil, List.cons_append, List.nil_append, List.length_cons, List.length_nil, List.mem_cons, List.not_mem_nil, List.getElem?_cons_zero, List.getElem?_cons_succ, List.getElem?_nil, or_false, List.nodup_nil, List.nodup_cons, not_false_eq_true, vMut, kdL, appP, extP, popP, insP, vUpd, owD, kdD, vStore, vGet1, vGet2, isDP, vPNil, vPCons, vDisp, vMeth, InsR, vProp, InsQ, vFld, putP, vFldS, vMake, vMakeN, slotsOf_nil, slotsOf_cons, vdel, endsV, endsL, resS, Option.isSome_some, reduceIte, Option.bind_some, true_and, and_true, Nat.reduceEqDiff, Nat.one_ne_zero, Nat.zero_ne_one, not_true_eq_false, false_and, and_false, if_true, if_false, Nat.zero_add, Nat.add_zero, h1]
    refine forV_ind (I := fun r τ => τ 0 = some (.fr (.dic kvs)) ∧ τ 2 = some (.fr (.str fo)) ∧ ∃ u v os : List Str, bs.reverse = u ++ v ∧ r = v.map PV.str ∧ fo ∉ u ∧ τ 3 = some (.ow (.lst (os.map PV.str))) ∧ os.Nodup ∧ ∀ y, y ∈ os ↔ y ∈ u ∧ other kvs fo y = true) ?_ ?_ _ _ ?_
    · rintro τ ⟨e0, e2, u, v, os, h, h', hu, e3, nd, hm⟩
      cases v with
      | cons _ _ => cases h'
      | nil =>
        rw [List.append_nil] at h
        subst h
        exact hR _ ⟨os, e3, due_start (fun z => hu (List.mem_reverse.mpr z)) nd fun y => by rw [hm, List.mem_reverse]⟩
    · rintro x r τ ⟨e0, e2, u, v, os, h, h', hu, e3, nd, hm⟩
      cases v with
      | nil => cases h'
      | cons b v =>
        cases h'
        refine ⟨_, rfl, fun R hR => ?_⟩
        have hbs : b ∈ bs := List.mem_reverse.mp (by rw [h]; simp)
        obtain ⟨_, i, ei⟩ := lay_get hs mf
        obtain ⟨_, j, ej⟩ := lay_get hs (mb b hbs)
        simp only [vseq_eq, vItems, Vl.pairP, vIndex, isLP, sortP, ssetP, int2P, joinP, vScr, vCallW, permL, List.filterMap_cons, List.filterMap_nil, vVar, vC, vNil, vCons, fz, vOp, vB, vAnd, vOr, vNot, vAndV, vOrV, vNotV, vIf, bP, vChain, vCB, rdL, vTup, vLst, tkL, vDict0, vNo, vSome, slP, vSl, vRev, vNeg, vIsi2, rd, giv, Vl.tk, vset_ap, eqB, neB, ordB, isB, isNonP, inB, Vl.addP, intP, mulP, ixP, lenP, absP, intCP, listP, tupP, dictP, isiP, tyP, keyP, vNext, vDrop, vRet, vRetN, vIfS, vBreak, vCont, vSet, vAsg, fvN, fvNil, fvCons, fvT, vPar, vIt, itP, vRg1, vRg2, vEnum, vZip, vFor, vForD, vdV, vdF, vLc, vLcD, vYes, vDc, vCall, vCallN, vApp, argV, slA, argS, Vl.cellOf, backV, conS, List.map_nil, List.map_cons, List.append_nil, List.cons_append, List.nil_append, List.length_cons, List.length_nil, List.mem_cons, List.not_mem_nil, List.getElem?_cons_zero, List.getElem?_cons_succ, List.getElem?_nil, or_false, List.nodup_nil, List.nodup_cons, not_false_eq_true, vMut, kdL, appP, extP, popP, insP, vUpd, owD, kdD, vStore, vGet1, vGet2, isDP, vPNil, vPCons, vDisp, vMeth, InsR, vProp, InsQ, vFld, putP, vFldS, vMake, vMakeN, slotsOf_nil, slotsOf_cons, vdel, endsV, endsL, resS, Option.isSome_some, reduceIte, Option.bind_some, true_and, and_true, Nat.reduceEqDiff, Nat.one_ne_zero, Nat.zero_ne_one, not_true_eq_false, false_and, and_false, if_true, if_false, Nat.zero_add, Nat.add_zero, e0, e2, e3, ei, ej]
        refine ⟨.inl rfl, ?_⟩
        have ho : other kvs fo b = (decide (b ≠ fo) && decide (PV.int j = PV.int i)) := by
          unfold other
          rw [ei, ej]
          simp
        by_cases hbf : b = fo
        · simp only [decide_eq_true (show PV.str b = PV.str fo by rw [hbf]), if_true, res_nil, List.length_map]
          rw [hbf] at h
          rw [due_since h hu nd hm] at q
          exact ⟨zr (by decide), q⟩
        · have hd : decide (PV.str b = PV.str fo) = false := decide_eq_false fun z => hbf (PV.str.inj z)
          have hub : fo ∉ u ++ [b] := fun z => by
            rcases List.mem_append.mp z with y | y
            · exact hu y
            · exact hbf (List.mem_singleton.mp y).symm
          have hou : os.length ≤ u.length := by
            have e1 := srt_count nd (l := u.filter (other kvs fo)) fun y => by rw [List.mem_filter, hm]
            have e2 := srt_len (u.filter (other kvs fo))
            have e3 := List.length_filter_le (other kvs fo) u
            omega
          have hul : u.length + (v.length + 1) = bs.length := by
            have := congrArg List.length h
            simpa using this.symm
          simp only [hd, Bool.false_eq_true, if_false]
          refine ⟨.inl rfl, ?_⟩
          by_cases hji : PV.int j = PV.int i
          · have hf : other kvs fo b = true := by rw [ho, decide_eq_true hji, Bool.and_true]; exact decide_eq_true hbf
            simp only [hji, decide_true, if_true]
            refine ⟨in_ok (fun s hs' => name_ok (lay_get hs (mb s (List.mem_reverse.mp (by rw [h]; exact List.mem_append_left _ ((hm s).mp hs').1)))).1) (name_ok (lay_get hs (mb b hbs)).1), ?_⟩
            simp only [mem_str]
            by_cases hin : b ∈ os
            · simp only [hin, decide_true, Bool.not_true, Bool.false_eq_true, if_false]
              exact hR _ ⟨by simpa [vset] using e0, by simpa [vset] using e2, u ++ [b], v, os, by rw [h]; simp, rfl, hub, by simpa [vset] using e3, nd, fun y => by
                rw [hm, List.mem_append, List.mem_singleton]
                constructor
                · exact fun ⟨a, c⟩ => ⟨.inl a, c⟩
                · rintro ⟨a | a, c⟩
                  · exact ⟨a, c⟩
                  · rw [a]; exact (hm b).mp hin⟩
            · simp only [hin, decide_false, Bool.not_false, if_true]
              exact ⟨by rw [List.length_map, sizeLine_eq]; omega, hR _ ⟨by simpa [vset] using e0, by simpa [vset] using e2, u ++ [b], v, os ++ [b], by rw [h]; simp, rfl, hub, by simp [vset], List.nodup_append.mpr ⟨nd, by simp, fun a ha c hc z => hin (by rw [List.mem_singleton.mp hc] at z; rw [← z]; exact ha)⟩, fun y => by
                rw [List.mem_append, List.mem_append, List.mem_singleton, hm]
                constructor
                · rintro (⟨a, c⟩ | a)
                  · exact ⟨.inl a, c⟩
                  · exact ⟨.inr a, by rw [a]; exact hf⟩
                · rintro ⟨a | a, c⟩
                  · exact .inl ⟨a, c⟩
                  · exact .inr a⟩⟩
          · have hf : other kvs fo b = false := by rw [ho, decide_eq_false hji, Bool.and_false]
            simp only [decide_eq_false hji, Bool.false_eq_true, if_false]
            exact hR _ ⟨by simpa [vset] using e0, by simpa [vset] using e2, u ++ [b], v, os, by rw [h]; simp, rfl, hub, by simpa [vset] using e3, nd, fun y => by
              rw [hm, List.mem_append, List.mem_singleton]
              constructor
              · exact fun ⟨a, c⟩ => ⟨.inl a, c⟩
              · rintro ⟨a | a, c⟩
                · exact ⟨a, c⟩
                · rw [a, hf] at c; cases c⟩
    · exact ⟨by simpa [vset] using h0, by simpa [vset] using h2, [], bs.reverse, [], rfl, by rw [List.map_reverse], by simp, by simp [vset], List.nodup_nil, fun y => by simp⟩
end K17
namespace K17
open PySem PySem.Spec PyProof.Rows L2 Dv Vl
variable {P : Program} {w : World} {K : Fr0} {mg : Str → Option Value} {base : Heap}
/-! ### calls by names -/
theorem kvW_element_of (V : Env K mg) : KnW P w K mg base 5 "element_of" ["focus", "layout", "blocks"] [2, 1, 0] (lowSpV 3 [] vElem) :=
  knWv_of V.d_element_of sc_element_of rfl (by decide) (body_element_of V) (by decide) fun _ _ _ _ _ _ ws hl => match ws, hl with | [_, _, _], _ => rfl
theorem kvW_distance_of (V : Env K mg) : KnW P w K mg base 4 "distance_of" ["element"] [0] (lowSpV 1 [] (fun σ Ψ _ => ∃ e, σ 0 = some (.fr (elV e)) ∧ ElOk 500 e ∧ Ψ (.fr (gapV e)) nilS)) := by
  refine knWv_of (io := []) V.d_distance_of sc_distance_of rfl (by decide) (fun f cdv A outer s H E en hr => ⟨_, (evss_cons (evs_expr (ev_call (fun _ => .nil) (fun _ h => e_kn (kv_need_element V) (hr.mono (by decide)) h) (eva_cons (ev_var (e_var 0)) eva_nil))) (evss_one (evs_ret (ev_call (fun _ => .nil) (fun _ h => e_kn (kv_distance_at V) (hr.mono (by decide)) h) (eva_cons (ev_var (e_var 0)) eva_nil))))), ?_⟩) (by decide) fun _ _ _ _ _ _ ws hl => match ws, hl with | [_], _ => rfl
  rintro σ Ψ ΨE ⟨e, h0, hs, q⟩
  simp only [vseq_eq, vItems, Vl.pairP, vIndex, isLP, sortP, ssetP, int2P, joinP, vScr, vCallW, permL, List.filterMap_cons, List.filterMap_nil, vVar, vC, vNil, vCons, fz, vOp, vB, vAnd, vOr, vNot, vAndV, vOrV, vNotV, vIf, bP, vChain, vCB, rdL, vTup, vLst, tkL, vDict0, vNo, vSome, slP, vSl, vRev, vNeg, vIsi2, rd, giv, Vl.tk, vset_ap, eqB, neB, ordB, isB, isNonP, inB, Vl.addP, intP, mulP, ixP, lenP, absP, intCP, listP, tupP, dictP, isiP, tyP, keyP, vNext, vDrop, vRet, vRetN, vIfS, vBreak, vCont, vSet, vAsg, fvN, fvNil, fvCons, fvT, vPar, vIt, itP, vRg1, vRg2, vEnum, vZip, vFor, vForD, vdV, vdF, vLc, vLcD, vYes, vDc, vCall, vCallN, vApp, argV, slA, argS, Vl.cellOf, backV, conS, List.map_nil, List.map_cons, List.append_nil, List.cons_append, List.nil_append, List.length_cons, List.length_nil, List.mem_cons, List.not_mem_nil, List.getElem?_cons_zero, List.getElem?_cons_succ, List.getElem?_nil, or_false, List.nodup_nil, List.nodup_cons, not_false_eq_true, vMut, kdL, appP, extP, popP, insP, vUpd, owD, kdD, vStore, vGet1, vGet2, isDP, vPNil, vPCons, vDisp, vMeth, InsR, vProp, InsQ, vFld, putP, vFldS, vMake, vMakeN, slotsOf_nil, slotsOf_cons, vdel, endsV, endsL, resS, Option.isSome_some, reduceIte, Option.bind_some, true_and, and_true, Nat.reduceEqDiff, Nat.one_ne_zero, Nat.zero_ne_one, not_true_eq_false, false_and, and_false, if_true, if_false, Nat.zero_add, Nat.add_zero, h0, v1]
  exact ⟨_, rfl, ⟨e, rfl, hs⟩, e, rfl, by rw [res_nil]; exact q⟩
end K17
namespace K17
open PySem PySem.Spec PyProof.Rows L2 Dv Vl
variable {P : Program} {w : World} {K : Fr0} {mg : Str → Option Value} {base : Heap}
abbrev Rows := Nat → List Str
def rowsT (rw : Rows) : List (T × T) := (List.range 8).map fun (i : Nat) => (T.int (i : Int), T.tup ((rw i).map T.str))
def touchL (b : Str) (w : Nat) (l : List Str) : List Str := (b :: l.filter fun o => decide (o ≠ b)).take w
def setR (rw : Rows) (i : Nat) (l : List Str) : Rows := fun j => if j = i then l else rw j
theorem look_rng {f : Nat → T} {i : Nat} : ∀ {n : Nat}, i < n → dlook ((List.range n).map fun (j : Nat) => (T.int (j : Int), f j)) (.int (i : Int)) = some (f i) := by
  have app : ∀ {l r : List (T × T)} {t : T}, dlook (l ++ r) t = match dlook l t with | some u => some u | none => dlook r t := by
    intro l r t
    induction l with
    | nil => rfl
    | cons kv l ih =>
      obtain ⟨k, v⟩ := kv
      simp only [List.cons_append, dlook]
      split
      · rfl
      · exact ih
  intro n
  induction n with
  | zero => intro h; exact absurd h (Nat.not_lt_zero _)
  | succ n ih =>
    intro h
    rw [List.range_succ, List.map_append, app]
    rcases Nat.lt_or_ge i n with h2 | h2
    · rw [ih h2]
    · have e : i = n := by omega
      subst e
      have hn : dlook ((List.range i).map fun (j : Nat) => (T.int (j : Int), f j)) (.int (i : Int)) = none := by
        have : ∀ l : List Nat, (∀ j ∈ l, j ≠ i) → dlook (l.map fun (j : Nat) => (T.int (j : Int), f j)) (.int (i : Int)) = none := by
          intro l
          induction l with
          | nil => intro _; rfl
          | cons j l ihl =>
            intro hl
            simp only [List.map_cons, dlook, T.int.injEq]
            rw [if_neg (by have := hl j (by simp); omega)]
            exact ihl fun k hk => hl k (by simp [hk])
        exact this _ fun j hj => by have := List.mem_range.mp hj; omega
      rw [hn]
      simp [dlook]
theorem put_rng {f : Nat → T} {i n : Nat} {u : T} (h : i < n) : dput ((List.range n).map fun (j : Nat) => (T.int (j : Int), f j)) (.int (i : Int)) u = (List.range n).map fun (j : Nat) => (T.int (j : Int), if j = i then u else f j) := by
  unfold dput
  rw [if_pos (by
    rw [List.any_eq_true]
    exact ⟨_, List.mem_map.mpr ⟨i, List.mem_range.mpr h, rfl⟩, by simp⟩), List.map_map]
  refine List.map_congr_left fun j _ => ?_
  simp only [Function.comp, T.int.injEq]
  by_cases e : j = i
  · subst e; simp
  · rw [if_neg (by omega), if_neg e]
theorem look_rows {rw : Rows} {i : Nat} (h : i < 8) : dlook (rowsT rw) (.int (i : Int)) = some (.tup ((rw i).map T.str)) := look_rng h
theorem put_rows {rw : Rows} {i : Nat} {l : List Str} (h : i < 8) : dput (rowsT rw) (.int (i : Int)) (.tup (l.map T.str)) = rowsT (setR rw i l) := by
  unfold rowsT
  rw [put_rng h]
  refine List.map_congr_left fun j _ => ?_
  simp only [setR]
  split <;> rfl
theorem rows_len {rw : Rows} : (rowsT rw).length = 8 := by simp [rowsT]
def notT (b : Str) : T → Bool
  | .str s => decide (s ≠ b)
  | _ => false
def StartT (G : Gp) (t : T) (bs : List Str) : Prop := (∃ a, t = .ref a ∧ G a = some (.lst (bs.map T.str))) ∨ t = .tup (bs.map T.str)
theorem StartT.up {G G' : Gp} {t : T} {bs : List Str} (s : Sub G G') (h : StartT G t bs) : StartT G' t bs := h.imp (fun ⟨a, e, h⟩ => ⟨a, e, s _ _ h⟩) id
theorem itT_start {G : Gp} {t : T} {bs : List Str} {Ψ : List T → (Gp → Prop) → Gp → Prop} (h : StartT G t bs) (q : ∀ Keep : Gp → Prop, (∀ G', StartT G' t bs → Keep G') → Ψ (bs.map T.str) Keep G) : itT t G Ψ := by
  rcases h with ⟨a, rfl, h⟩ | rfl
  · refine itT_lst h (q _ fun G' hg => ?_)
    rcases hg with ⟨a', e, hg⟩ | e
    · cases e; exact hg
    · cases e
  · simp only [itT]
    exact q _ fun _ _ => trivial
theorem dput_newT {t u : T} {kvs : List (T × T)} (h : t ∉ kvs.map (·.1)) : dput kvs t u = kvs ++ [(t, u)] := by
  unfold dput
  rw [if_neg]
  intro z
  rw [List.any_eq_true] at z
  obtain ⟨kv, h1, h2⟩ := z
  exact h (List.mem_map.mpr ⟨kv, h1, by simpa using h2⟩)

/-- the set of a name -/
noncomputable def lkS (kvs : List (Key × PV)) (b : Str) : Option Nat := match dgetP kvs (.inr b) with
  | some (.int i) => some i.toNat
  | _ => none
theorem lk_some {kvs : List (Key × PV)} (h : LayP kvs) {b : Str} (m : (.inr b : Key) ∈ kvs.map (·.1)) : ∃ i : Nat, lkS kvs b = some i ∧ i < 8 ∧ dgetP kvs (.inr b) = some (.int (i : Int)) := by
  obtain ⟨v, e, hm⟩ := dget_some m
  obtain ⟨s', i, e2, _, hi⟩ := h.ok _ hm
  cases e2
  obtain ⟨n, rfl⟩ := Int.eq_ofNat_of_zero_le hi.1
  exact ⟨n, by unfold lkS; rw [e]; rfl, by omega, e⟩
theorem ixT_rp {G : Gp} {d : Addr} {kvs : List (Key × PV)} {b : Str} {i : Int} {Φ : QT} (h : Rp G (.ref d) (.dic kvs)) (e : dgetP kvs (.inr b) = some (.int i)) (q : Φ (.int i) G) : ixT (.ref d) (.str b) G Φ := by
  cases h with
  | dic hd rd =>
    rcases rd.look (k := .inr b) with ⟨_, z⟩ | ⟨t, p, e1, e2, e3⟩
    · rw [e] at z; cases z
    · rw [e] at e2
      cases e2
      cases e3
      rcases dicAt_or hd with h1 | ⟨ob, raw, h1⟩
      · exact ixT_dicI h1 e1 q
      · have e1 : dlook _ (.str b) = some (T.int i) := e1
        simpa [ixT, h1, e1, keyT] using q
def spNeedLayV : Sp2 := fun ts G Φ _ => ∃ d kvs, ts = [.ref d] ∧ Rp G (.ref d) (.dic kvs) ∧ LayP kvs ∧ ∀ G', Sub G G' → Φ .non G'
theorem kn_need_layout (V : Env K mg) : Kn P w K mg base 4 "need_layout" spNeedLayV [] := (kv_need_layout V).imp fun ts G Φ ΦE ⟨d, kvs, e, r, hl, q⟩ => by
  subst e
  exact frozen_call rfl (.cons r .nil) ⟨_, rfl, ⟨kvs, rfl, hl⟩, fun t F' H G' s1 s2 cr => by
    have cr : Rp F' t .non := cr
    cases cr
    exact q G' (s1.trans s2)⟩
def spNeedBlockV : Sp2 := fun ts G Φ _ => ∃ d kvs s, ts = [.ref d, .str s] ∧ Rp G (.ref d) (.dic kvs) ∧ LayP kvs ∧ (.inr s : Key) ∈ kvs.map (·.1) ∧ ∀ G', Sub G G' → Φ .non G'
theorem kn_need_block (V : Env K mg) : Kn P w K mg base 1 "need_block" spNeedBlockV [] := (kv_need_block V).imp fun ts G Φ ΦE ⟨d, kvs, s, e, r, hl, hm, q⟩ => by
  subst e
  exact frozen_call rfl (.cons r (.cons (.str s) .nil)) ⟨kvs, s, rfl, hl, rfl, hm, fun t F' H G' s1 s2 cr => by
    have cr : Rp F' t .non := cr
    cases cr
    exact q G' (s1.trans s2)⟩
/-! ### distances_of -/
def rowsP (rw : Rows) : List (T × T) := (List.range 8).map fun (i : Nat) => (T.int (i : Int), T.ptup ((rw i).map T.str))
theorem look_rowsP {rw : Rows} {i : Nat} (h : i < 8) : dlook (rowsP rw) (.int (i : Int)) = some (.ptup ((rw i).map T.str)) := look_rng h
theorem put_rowsP {rw : Rows} {i : Nat} {l : List Str} (h : i < 8) : dput (rowsP rw) (.int (i : Int)) (.ptup (l.map T.str)) = rowsP (setR rw i l) := by
  unfold rowsP
  rw [put_rng h]
  refine List.map_congr_left fun j _ => ?_
  simp only [setR]
  split <;> rfl
def distOf (b : Str) (l : List Str) : T := if b ∈ l then .tup [.str "since", .int (l.idxOf b : Nat)] else .tup [.str "start", .int (l.length : Nat)]
def frontL (b : Str) (l : List Str) : List Str := b :: l.filter fun o => decide (o ≠ b)
noncomputable def fullR (kvs : List (Key × PV)) (rw : Rows) (b : Str) : Rows := match lkS kvs b with
  | some i => setR rw i (frontL b (rw i))
  | none => rw
noncomputable def distsL (kvs : List (Key × PV)) (rw : Rows) : List Str → List T
  | [] => []
  | b :: bs => (match lkS kvs b with
    | some i => distOf b (rw i)
    | none => .non) :: distsL kvs (fullR kvs rw b) bs
def spDist : Sp2 := fun ts G Φ _ => ∃ bt d kvs bs, ts = [bt, .ref d] ∧ StartT G bt bs ∧ Rp G (.ref d) (.dic kvs) ∧ LayP kvs ∧ (∀ b ∈ bs, (.inr b : Key) ∈ kvs.map (·.1)) ∧ bs.length ≤ 1000 ∧
  ∀ p G', Sub G G' → G p = none → G' p = some (.lst (distsL kvs (fun _ => []) bs)) → Φ (.ref p) G'
theorem _root_.Dv.Sub.set {G G2 : Gp} {p : Addr} {o : O} (h : Sub G G2) (hp : G p = none) : Sub G (gup G2 p o) := fun b u e => by
  rw [gup_ne (fun z => by rw [z, hp] at e; cases e)]; exact h b u e
theorem _root_.Dv.Sub.fresh {G G2 : Gp} {p : Addr} (h : Sub G G2) (e : G2 p = none) : G p = none := by
  cases q : G p with
  | none => rfl
  | some o => rw [h p o q] at e; cases e
theorem sc_distances_of : FnScope ["blocks", "layout", "block", "rows", "found", "index", "row", "one"] ["blocks", "layout"] (defScope (top 16)) := ⟨rfl, rfl, rfl, by decide +kernel, rfl, by decide +kernel, by decide +kernel⟩
theorem kn_distances_of (V : Env K mg) : Kn P w K mg base 5 "distances_of" spDist [] := by
  refine kn_of V.d_distances_of sc_distances_of (by rintro ts G Φ ΦE ⟨bt, d, kvs, bs, rfl, _⟩; rfl) fun f cdv A outer s H E ts G Φ ΦE hr ho hsp => ⟨_, (es_cons (s_expr (e_kn (kn_need_layout V) (hr.mono (by decide)) (ea_cons (e_var 1) ea_nil))) (es_cons (s_for (passes_of rfl) rfl (i_val (e_var 0)) (g_name (j := 2) sc_distances_of.nd rfl (by first | exact .inl rfl | exact .inr rfl)) (es_one (s_expr (e_kn (kn_need_block V) (hr.mono (by decide)) (ea_cons (e_var 1) (ea_cons (e_var 2) ea_nil)))))) (es_cons (s_par (j := 3) (k := 4) rfl sc_distances_of.nd rfl rfl (by decide) rfl rfl (ea_cons (e_dc [("index", 5)] sc_distances_of.nd (i_rg1 rfl V.b_range (ea_cons (e_gInt V.g_MOST_SETS) ea_nil)) (fun _ _ _ _ _ => (g_name (j := 5) sc_distances_of.nd rfl (by first | exact .inl rfl | exact .inr rfl))) (fun _ _ _ _ _ => ts_nil) (fun _ _ _ _ _ => (e_var 5)) (fun _ _ _ _ _ => (e_ptup ea_nil))) (ea_cons (e_lst ea_nil) ea_nil)) rfl) (es_cons (s_for (passes_of rfl) rfl (i_val (e_var 0)) (g_name (j := 2) sc_distances_of.nd rfl (by first | exact .inl rfl | exact .inr rfl)) (es_cons (s_set (j := 6) sc_distances_of.nd rfl (by first | exact .inl rfl | exact .inr rfl) (e_ix hr.u1 (e_var 3) (e_ix hr.u1 (e_var 1) (e_var 2) (fun _ _ => rfl)) (fun _ _ => rfl))) (es_cons (s_expr (e_append (e_var 4) (ea_cons (e_if (et_cmp (o_in hr.u65) (e_var 2) (e_unP (e_var 6))) (e_tup (ea_cons e_str (ea_cons (e_pindex (e_var 6) (e_var 2)) ea_nil))) (e_tup (ea_cons e_str (ea_cons (b_lenE V.b_len (ea_cons (e_unP (e_var 6)) ea_nil)) ea_nil)))) ea_nil))) (es_one (s_store hr.u1 (e_var 3) (e_ix hr.u1 (e_var 1) (e_var 2) (fun _ _ => rfl)) (e_bin o_addP (e_ptup (ea_cons (e_var 2) ea_nil)) (b_tupleE V.b_tuple (ea_cons (e_lc [("one", 7)] sc_distances_of.nd (i_val (e_unP (e_var 6))) (fun _ _ _ _ _ => (g_name (j := 7) sc_distances_of.nd rfl (by first | exact .inl rfl | exact .inr rfl))) (fun _ _ _ _ _ => (ts_one (et_cmp (o_ne hr.u64) (e_var 7) (e_var 2)))) (fun _ _ _ _ _ => (e_var 7))) ea_nil)))))))) (es_one (s_ret (e_var 4))))))), ?_⟩
  obtain ⟨bt, d, kvs, bs, rfl, hst, hd, hg, hbs, hbl, q⟩ := hsp
  have hz : ∀ m : Nat, m ≤ 20000 → m ≤ sizeLine := fun m h => by rw [sizeLine_eq]; omega
  show lSeq _ _ _ [some bt, some (.ref d), none, none, none, none, none, none] _
  refine sq1 (S1 := [some bt, some (.ref d), none, none, none, none, none, none]) (G1 := G) (fun R hR => ?_) ?_
  · simp only [lIfS, lAnd, lOr, lNot, lB, lOp, lVar, lC, lCons, lNil, lTup, lLst, lUn, lCB, lAsg, gN, lSet, lRet, lRetN, lDrop, lNext, lIf, lBM, lFor, lLc, lDc, lIt, lRg1, lRg2, lEnum, lZip, lMeth, lCall, lProp, lFld, lFldS, lGlob, lIsi2, lChain, lSl, lSome, lNo, lAndV, lOrV, lNotV, lPar, lPar3, lMake, lDisp, lPCons, lPNil, lYes, lPTup, lUnP, lPIx, unP, gT, gCons2, gNil2, slotsOf_nil, slotsOf_cons, wipe2, sl, List.set, List.append_nil]
    exact ⟨d, kvs, rfl, hd, hg, fun G' s' => hR _ s'⟩
  refine sq (M := fun S' G' => ∃ t2, S' = [some bt, some (.ref d), t2, none, none, none, none, none] ∧ G' = G) ?_ (fun R hR => ?_)
  · rintro S' G' ⟨t2, rfl, rfl⟩
    refine sq (M := fun S' G2 => ∃ r1 f1, G' r1 = none ∧ G' f1 = none ∧ f1 ≠ r1 ∧ S' = [some bt, some (.ref d), t2, some (.ref r1), some (.ref f1), none, none, none] ∧ G2 = gup (gup G' r1 (.dic (rowsP fun _ => []))) f1 (.lst [])) ?_ (fun R hR => ?_)
    · rintro S' G2 ⟨r1, f1, hr1, hf1, hfr, rfl, rfl⟩
      refine sq (M := fun S' G2 => ∃ t2 t6, S' = [some bt, some (.ref d), t2, some (.ref r1), some (.ref f1), none, t6, none] ∧ Sub G' G2 ∧ G2 f1 = some (.lst (distsL kvs (fun _ => []) bs))) ?_ (fun R hR => ?_)
      · rintro S' G2 ⟨t2, t6, rfl, sb, gf⟩
        simp only [lIfS, lAnd, lOr, lNot, lB, lOp, lVar, lC, lCons, lNil, lTup, lLst, lUn, lCB, lAsg, gN, lSet, lRet, lRetN, lDrop, lNext, lIf, lBM, lFor, lLc, lDc, lIt, lRg1, lRg2, lEnum, lZip, lMeth, lCall, lProp, lFld, lFldS, lGlob, lIsi2, lChain, lSl, lSome, lNo, lAndV, lOrV, lNotV, lPar, lPar3, lMake, lDisp, lPCons, lPNil, lYes, lPTup, lUnP, lPIx, unP, gT, gCons2, gNil2, slotsOf_nil, slotsOf_cons, wipe2, sl, List.set, List.append_nil]
        exact rtF.of (q f1 G2 sb hf1 gf)
      · have sb0 : Sub G' (gup (gup G' r1 (.dic (rowsP fun _ => []))) f1 (.lst [])) := ((Sub.refl G').set hr1).set hf1
        simp only [lIfS, lAnd, lOr, lNot, lB, lOp, lVar, lC, lCons, lNil, lTup, lLst, lUn, lCB, lAsg, gN, lSet, lRet, lRetN, lDrop, lNext, lIf, lBM, lFor, lLc, lDc, lIt, lRg1, lRg2, lEnum, lZip, lMeth, lCall, lProp, lFld, lFldS, lGlob, lIsi2, lChain, lSl, lSome, lNo, lAndV, lOrV, lNotV, lPar, lPar3, lMake, lDisp, lPCons, lPNil, lYes, lPTup, lUnP, lPIx, unP, gT, gCons2, gNil2, slotsOf_nil, slotsOf_cons, wipe2, sl, List.set, List.append_nil]
        refine itT_start (hst.up sb0) fun Keep hK => ?_
        refine forW_ind (I := fun r S2 G2 => ∃ t2 t6 rw ds, S2 = [some bt, some (.ref d), t2, some (.ref r1), some (.ref f1), none, t6, none] ∧ Sub G' G2 ∧ G2 r1 = some (.dic (rowsP rw)) ∧ G2 f1 = some (.lst ds) ∧ (∀ i, (rw i).length ≤ ds.length) ∧ ∃ r', r = r'.map T.str ∧ (∀ b ∈ r', (.inr b : Key) ∈ kvs.map (·.1)) ∧ ds ++ distsL kvs rw r' = distsL kvs (fun _ => []) bs ∧ ds.length + r'.length ≤ 1000)
          (fun S2 G2 h => ?_) (fun t r S2 G2 h => ?_) _ _ _ ⟨t2, none, fun _ => [], [], rfl, sb0, by rw [gup_ne hfr.symm, gup_same], gup_same, fun _ => Nat.zero_le _, bs, rfl, hbs, rfl, by simpa using hbl⟩
        · obtain ⟨t2, t6, rw, ds, rfl, sb, gr, gf, hsm, r', er, _, hds, _⟩ := h
          have er' : r' = [] := by simpa using er.symm
          subst er'
          simp only [distsL, List.append_nil] at hds
          subst hds
          exact ⟨hK _ (hst.up sb), hR _ _ _ (Sub.refl _) ⟨t2, t6, rfl, sb, gf⟩⟩
        · obtain ⟨t2, t6, rw, ds, rfl, sb, gr, gf, hsm, r', er, hr', hds, hl⟩ := h
          refine ⟨hK _ (hst.up sb), ?_⟩
          cases r' with
          | nil => cases er
          | cons b r' =>
            obtain ⟨rfl, rfl⟩ := List.cons.inj er
            refine ⟨_, rfl, fun R2 hR2 => ?_⟩
            obtain ⟨i, hi, hi8, hdl⟩ := lk_some hg (hr' b (by simp))
            have hsi := hsm i
            have hlen : ds.length + (r'.length + 1) ≤ 1000 := hl
            simp only [gN, List.set]
            refine sq1 (S1 := [some bt, some (.ref d), some (.str b), some (.ref r1), some (.ref f1), none, some (.ptup ((rw i).map T.str)), none]) (G1 := G2) (fun R3 hR3 => ?_) ?_
            · simp only [lIfS, lAnd, lOr, lNot, lB, lOp, lVar, lC, lCons, lNil, lTup, lLst, lUn, lCB, lAsg, gN, lSet, lRet, lRetN, lDrop, lNext, lIf, lBM, lFor, lLc, lDc, lIt, lRg1, lRg2, lEnum, lZip, lMeth, lCall, lProp, lFld, lFldS, lGlob, lIsi2, lChain, lSl, lSome, lNo, lAndV, lOrV, lNotV, lPar, lPar3, lMake, lDisp, lPCons, lPNil, lYes, lPTup, lUnP, lPIx, unP, gT, gCons2, gNil2, slotsOf_nil, slotsOf_cons, wipe2, sl, List.set, List.append_nil]
              exact ixT_rp (hd.sub sb) hdl (ixT_dicI gr (look_rowsP hi8) (hR3 _ (Sub.refl _)))
            refine sq1 (S1 := [some bt, some (.ref d), some (.str b), some (.ref r1), some (.ref f1), none, some (.ptup ((rw i).map T.str)), none]) (G1 := gup G2 f1 (.lst (ds ++ [distOf b (rw i)]))) (fun R3 hR3 => ?_) ?_
            · simp only [lIfS, lAnd, lOr, lNot, lB, lOp, lVar, lC, lCons, lNil, lTup, lLst, lUn, lCB, lAsg, gN, lSet, lRet, lRetN, lDrop, lNext, lIf, lBM, lFor, lLc, lDc, lIt, lRg1, lRg2, lEnum, lZip, lMeth, lCall, lProp, lFld, lFldS, lGlob, lIsi2, lChain, lSl, lSome, lNo, lAndV, lOrV, lNotV, lPar, lPar3, lMake, lDisp, lPCons, lPNil, lYes, lPTup, lUnP, lPIx, unP, gT, gCons2, gNil2, slotsOf_nil, slotsOf_cons, wipe2, sl, List.set, List.append_nil]
              refine ⟨tyT_lst gf, rw i, rfl, ?_⟩
              by_cases hb : b ∈ rw i
              · simp only [hb, decide_true, Bool.false_eq_true, if_false, if_true, tixT, strsT_of]
                refine ⟨trivial, hz 2 (by decide), appT_lstI gf (by rw [sizeLine_eq]; omega) ?_⟩
                have e : distOf b (rw i) = .tup [.str "since", .int ((rw i).idxOf b : Nat)] := by simp [distOf, hb]
                rw [← e]
                exact hR3 _ (Sub.refl _)
              · simp only [hb, decide_false, Bool.false_eq_true, if_false]
                refine lenT_tupI ⟨hz 2 (by decide), appT_lstI gf (by rw [sizeLine_eq]; omega) ?_⟩
                have e : distOf b (rw i) = .tup [.str "start", .int (((rw i).map T.str).length : Nat)] := by simp [distOf, hb]
                rw [← e]
                exact hR3 _ (Sub.refl _)
            · simp only [lSet, lIfS, lAnd, lOr, lNot, lB, lOp, lVar, lC, lCons, lNil, lTup, lLst, lUn, lCB, lAsg, gN, lSet, lRet, lRetN, lDrop, lNext, lIf, lBM, lFor, lLc, lDc, lIt, lRg1, lRg2, lEnum, lZip, lMeth, lCall, lProp, lFld, lFldS, lGlob, lIsi2, lChain, lSl, lSome, lNo, lAndV, lOrV, lNotV, lPar, lPar3, lMake, lDisp, lPCons, lPNil, lYes, lPTup, lUnP, lPIx, unP, gT, gCons2, gNil2, slotsOf_nil, slotsOf_cons, wipe2, sl, List.set, List.append_nil]
              refine ⟨hz 1 (by decide), ?_⟩
              simp only [itT]
              refine lc_pure (notT b) id trivial (by rw [List.length_map]; exact hz _ (by omega)) (fun t ht => ?_) ?_
              · obtain ⟨s, hs, rfl⟩ := List.mem_map.mp ht
                refine ⟨_, rfl, fun Φ h => ?_, fun _ G' sb Φ h => ?_⟩
                · simp only [lIfS, lAnd, lOr, lNot, lB, lOp, lVar, lC, lCons, lNil, lTup, lLst, lUn, lCB, lAsg, gN, lSet, lRet, lRetN, lDrop, lNext, lIf, lBM, lFor, lLc, lDc, lIt, lRg1, lRg2, lEnum, lZip, lMeth, lCall, lProp, lFld, lFldS, lGlob, lIsi2, lChain, lSl, lSome, lNo, lAndV, lOrV, lNotV, lPar, lPar3, lMake, lDisp, lPCons, lPNil, lYes, lPTup, lUnP, lPIx, unP, gT, gCons2, gNil2, slotsOf_nil, slotsOf_cons, wipe2, sl, List.set, List.append_nil]
                  refine neT_scal rfl ?_
                  have hh := h _ (Sub.refl _)
                  simp only [notT] at hh
                  simpa using hh
                · simp only [lIfS, lAnd, lOr, lNot, lB, lOp, lVar, lC, lCons, lNil, lTup, lLst, lUn, lCB, lAsg, gN, lSet, lRet, lRetN, lDrop, lNext, lIf, lBM, lFor, lLc, lDc, lIt, lRg1, lRg2, lEnum, lZip, lMeth, lCall, lProp, lFld, lFldS, lGlob, lIsi2, lChain, lSl, lSome, lNo, lAndV, lOrV, lNotV, lPar, lPar3, lMake, lDisp, lPCons, lPNil, lYes, lPTup, lUnP, lPIx, unP, gT, gCons2, gNil2, slotsOf_nil, slotsOf_cons, wipe2, sl, List.set, List.append_nil]
                  exact h _ (Sub.refl _)
              · intro p hp
                have e1 : (((rw i).map T.str).filter (notT b)).map id = ((rw i).filter fun o => decide (o ≠ b)).map T.str := by rw [List.map_id, List.filter_map]; rfl
                rw [e1] at *
                have hfl : ((rw i).filter fun o => decide (o ≠ b)).length ≤ (rw i).length := List.length_filter_le _ _
                simp only [tupCT, gup_same, Dv.addP]
                refine ⟨by simp, by rw [List.length_map]; exact hz _ (by rw [List.length_singleton]; omega), ?_⟩
                have hp1 : p ≠ f1 := fresh_ne gup_same hp
                have hp2 := hp
                rw [gup_ne hp1] at hp2
                have g3 : Sub G2 (gup (gup G2 f1 (.lst (ds ++ [distOf b (rw i)]))) p (.lst (((rw i).filter fun o => decide (o ≠ b)).map T.str))) → True := fun _ => trivial
                have hr3 : gup (gup G2 f1 (.lst (ds ++ [distOf b (rw i)]))) p (.lst (((rw i).filter fun o => decide (o ≠ b)).map T.str)) r1 = some (.dic (rowsP rw)) := by
                  rw [gup_ne (fresh_ne gr hp2).symm, gup_ne hfr.symm]; exact gr
                have hd3 : Rp (gup (gup G2 f1 (.lst (ds ++ [distOf b (rw i)]))) p (.lst (((rw i).filter fun o => decide (o ≠ b)).map T.str))) (.ref d) (.dic kvs) := hd.sub ((sb.set hf1).set (sb.fresh hp2))
                refine ixT_rp hd3 hdl (setT_dicI hr3 (by rw [sizeLine_eq]; simp [rowsP]) ?_)
                have e2 : ([T.str b] ++ ((rw i).filter fun o => decide (o ≠ b)).map T.str) = (frontL b (rw i)).map T.str := by simp [frontL]
                rw [e2, put_rowsP hi8]
                refine hR2 _ _ _ (Sub.refl _) ⟨_, _, setR rw i (frontL b (rw i)), ds ++ [distOf b (rw i)], rfl, ((sb.set hf1).set (sb.fresh hp2)).set hr1, gup_same, ?_, fun j => ?_, r', rfl, fun c hc => hr' c (by simp [hc]), ?_, by simp; omega⟩
                · rw [gup_ne hfr, gup_ne hp1.symm, gup_same]
                · simp only [setR, List.length_append, List.length_singleton]
                  split
                  · simp only [frontL, List.length_cons]; omega
                  · have := hsm j; omega
                · rw [← hds]
                  simp only [distsL, hi, fullR, List.append_assoc, List.singleton_append]
    · simp only [lIfS, lAnd, lOr, lNot, lB, lOp, lVar, lC, lCons, lNil, lTup, lLst, lUn, lCB, lAsg, gN, lSet, lRet, lRetN, lDrop, lNext, lIf, lBM, lFor, lLc, lDc, lIt, lRg1, lRg2, lEnum, lZip, lMeth, lCall, lProp, lFld, lFldS, lGlob, lIsi2, lChain, lSl, lSome, lNo, lAndV, lOrV, lNotV, lPar, lPar3, lMake, lDisp, lPCons, lPNil, lYes, lPTup, lUnP, lPIx, unP, gT, gCons2, gNil2, slotsOf_nil, slotsOf_cons, wipe2, sl, List.set, List.append_nil]
      refine ⟨by decide, ?_⟩
      have e8 : (List.map (fun (i : Nat) => T.int (i : Int)) (List.range (Int.toNat 8))) = (List.range 8).map fun (i : Nat) => T.int (i : Int) := rfl
      rw [e8]
      refine dcW_ind (I := fun r acc G2 => G2 = G' ∧ ∃ j, j ≤ 8 ∧ r = ((List.range 8).map fun (i : Nat) => T.int (i : Int)).drop j ∧ acc = (List.range j).map fun (i : Nat) => (T.int (i : Int), T.ptup [])) (fun acc G2 h => ?_) (fun t r acc G2 h => ?_) _ _ _ ⟨rfl, 0, by decide, rfl, rfl⟩
      · obtain ⟨rfl, j, hj, er, rfl⟩ := h
        have : j = 8 := by have h1 := congrArg List.length er; simp at h1; omega
        subst this
        refine ⟨trivial, fun r1 hr1 => ⟨Nat.zero_le _, fun f1 hf1 => ?_⟩⟩
        have hfr : f1 ≠ r1 := fresh_ne gup_same hf1
        rw [gup_ne hfr] at hf1
        exact hR _ _ _ (Sub.refl _) ⟨r1, f1, hr1, hf1, hfr, rfl, rfl⟩
      · obtain ⟨rfl, j, hj, er, rfl⟩ := h
        have hj8 : j < 8 := by have h1 := congrArg List.length er; simp at h1; omega
        have ed : ((List.range 8).map fun (i : Nat) => T.int (i : Int)).drop j = .int (j : Int) :: ((List.range 8).map fun (i : Nat) => T.int (i : Int)).drop (j + 1) := by
          rw [List.drop_eq_getElem_cons (by simp; exact hj8)]
          congr 1
          simp
        rw [ed] at er
        obtain ⟨rfl, rfl⟩ := List.cons.inj er
        refine ⟨trivial, _, rfl, fun R2 hR2 => ?_⟩
        simp only [lIfS, lAnd, lOr, lNot, lB, lOp, lVar, lC, lCons, lNil, lTup, lLst, lUn, lCB, lAsg, gN, lSet, lRet, lRetN, lDrop, lNext, lIf, lBM, lFor, lLc, lDc, lIt, lRg1, lRg2, lEnum, lZip, lMeth, lCall, lProp, lFld, lFldS, lGlob, lIsi2, lChain, lSl, lSome, lNo, lAndV, lOrV, lNotV, lPar, lPar3, lMake, lDisp, lPCons, lPNil, lYes, lPTup, lUnP, lPIx, unP, gT, gCons2, gNil2, slotsOf_nil, slotsOf_cons, wipe2, sl, List.set, List.append_nil, if_true]
        refine ⟨Nat.zero_le _, by simp; exact Nat.lt_of_lt_of_le hj8 (by rw [sizeLine_eq]; decide), rfl, hR2 _ _ _ (Sub.refl _) ⟨rfl, j + 1, hj8, rfl, ?_⟩⟩
        have hn : T.int (j : Int) ∉ ((List.range j).map fun (i : Nat) => (T.int (i : Int), T.ptup [])).map (·.1) := by
          intro z
          rw [List.map_map] at z
          obtain ⟨i, hi, e⟩ := List.mem_map.mp z
          have hi := List.mem_range.mp hi
          have e : (i : Int) = (j : Int) := by simpa using e
          omega
        rw [dput_newT hn, List.range_succ, List.map_append]
        rfl
  · simp only [lIfS, lAnd, lOr, lNot, lB, lOp, lVar, lC, lCons, lNil, lTup, lLst, lUn, lCB, lAsg, gN, lSet, lRet, lRetN, lDrop, lNext, lIf, lBM, lFor, lLc, lDc, lIt, lRg1, lRg2, lEnum, lZip, lMeth, lCall, lProp, lFld, lFldS, lGlob, lIsi2, lChain, lSl, lSome, lNo, lAndV, lOrV, lNotV, lPar, lPar3, lMake, lDisp, lPCons, lPNil, lYes, lPTup, lUnP, lPIx, unP, gT, gCons2, gNil2, slotsOf_nil, slotsOf_cons, wipe2, sl, List.set, List.append_nil]
    refine itT_start hst fun Keep hK => ?_
    refine forW_ind (I := fun r S2 G2 => ∃ t2, S2 = [some bt, some (.ref d), t2, none, none, none, none, none] ∧ G2 = G ∧ ∃ r', r = r'.map T.str ∧ ∀ b ∈ r', (.inr b : Key) ∈ kvs.map (·.1)) (fun S2 G2 h => ?_) (fun t r S2 G2 h => ?_) _ _ _ ⟨none, rfl, rfl, bs, rfl, hbs⟩
    · obtain ⟨t2, rfl, rfl, _⟩ := h
      exact ⟨hK _ hst, hR _ _ _ (Sub.refl _) ⟨t2, rfl, rfl⟩⟩
    · obtain ⟨t2, rfl, rfl, r', er, hr'⟩ := h
      refine ⟨hK _ hst, ?_⟩
      cases r' with
      | nil => cases er
      | cons b r' =>
        obtain ⟨rfl, rfl⟩ := List.cons.inj er
        refine ⟨_, rfl, fun R2 hR2 => ?_⟩
        simp only [lIfS, lAnd, lOr, lNot, lB, lOp, lVar, lC, lCons, lNil, lTup, lLst, lUn, lCB, lAsg, gN, lSet, lRet, lRetN, lDrop, lNext, lIf, lBM, lFor, lLc, lDc, lIt, lRg1, lRg2, lEnum, lZip, lMeth, lCall, lProp, lFld, lFldS, lGlob, lIsi2, lChain, lSl, lSome, lNo, lAndV, lOrV, lNotV, lPar, lPar3, lMake, lDisp, lPCons, lPNil, lYes, lPTup, lUnP, lPIx, unP, gT, gCons2, gNil2, slotsOf_nil, slotsOf_cons, wipe2, sl, List.set, List.append_nil]
        exact ⟨d, kvs, b, rfl, hd, hg, hr' b (by simp), fun G' s' => hR2 _ _ _ s' ⟨_, rfl, rfl, r', rfl, fun c hc => hr' c (by simp [hc])⟩⟩

end K17
namespace K17
open PySem PySem.Spec PyProof.Rows L2 Dv Vl
variable {P : Program} {w : World} {K : Fr0} {mg : Str → Option Value} {base : Heap}
/-! ### distances_of over values -/
def distV (b : Str) (l : List Str) : PV := if b ∈ l then .tup [.str "since", .int (l.idxOf b : Nat)] else .tup [.str "start", .int (l.length : Nat)]
noncomputable def distsV (kvs : List (Key × PV)) (rw : Rows) : List Str → List PV
  | [] => []
  | b :: bs => (match lkS kvs b with
    | some i => distV b (rw i)
    | none => .non) :: distsV kvs (fullR kvs rw b) bs
theorem dist_rp {F : Gp} (b : Str) (l : List Str) : Rp F (distOf b l) (distV b l) := by
  unfold distOf distV
  split
  · exact .tup (.cons (.str _) (.cons (.int _) .nil))
  · exact .tup (.cons (.str _) (.cons (.int _) .nil))
theorem dists_rp {F : Gp} {kvs : List (Key × PV)} : ∀ (bs : List Str) (rw : Rows), RpL F (distsL kvs rw bs) (distsV kvs rw bs)
  | [], _ => .nil
  | b :: bs, rw => by
    refine .cons ?_ (dists_rp bs _)
    cases lkS kvs b with
    | none => exact .non
    | some i => exact dist_rp _ _
def vDists : SpV := fun σ Ψ _ => ∃ kvs bs, σ 0 = some (.fr (.lst (bs.map PV.str))) ∧ σ 1 = some (.fr (.dic kvs)) ∧ LayP kvs ∧ (∀ b ∈ bs, (.inr b : Key) ∈ kvs.map (·.1)) ∧ bs.length ≤ 1000 ∧ Ψ (.ow (.lst (distsV kvs (fun _ => []) bs))) nilS
theorem dists_lift : ∀ ts G Φ ΦE, lowSpV 2 [] vDists ts G Φ ΦE → spDist ts G Φ ΦE := by
  intro ts G Φ ΦE ⟨hl, Fr, F, own, σ, Ψ, ΨE, g, ⟨kvs, bs, h0, h1, hlay, hk, hlen, q⟩, cal⟩
  obtain ⟨t, u, rfl⟩ := args2 hl
  obtain ⟨t', e1, r0⟩ := g.cell 0 _ h0
  simp at e1
  subst e1
  obtain ⟨u', e2, r1⟩ := g.cell 1 _ h1
  simp at e2
  subst e2
  have r0 : Rp F t (.lst (bs.map PV.str)) := r0
  have r1 : Rp F u (.dic kvs) := r1
  cases r0 with
  | @lst a xs _ ha rl =>
    have e := rl.strs
    subst e
    have r1' := r1
    cases r1' with
    | @dic d ys _ hd rd =>
      refine ⟨.ref a, d, kvs, bs, rfl, .inl ⟨a, rfl, g.sub _ _ ha⟩, r1.sub g.sub, hlay, hk, hlen, fun p G' s hp hlst => ?_⟩
      have gnone : ∀ X : Gp, Sub X G → X p = none := fun X sx => by
        cases z : X p with
        | none => rfl
        | some o => rw [sx p o z] at hp; cases hp
      refine cal.ok _ nilS F own (one p (.lst (distsL kvs (fun _ => []) bs))) (.ref p) G' q .refl ⟨g.len, g.pin, g.sub.trans s, g.frs.trans s, g.frF, fun i => (g.owG i).trans s, g.owF, g.dis, fun i c e => by cases e⟩ ⟨p, _, rfl, rfl, dists_rp bs _⟩ ⟨fun b o e => ?_, fun b e => ?_, fun b i e => ?_⟩
      · obtain ⟨rfl, rfl⟩ := one_at e
        exact hlst
      · have hb : b = p := one_ne e
        subst hb
        exact ⟨gnone F g.sub, gnone Fr g.frs⟩
      · have hb : b = p := one_ne e
        subst hb
        exact gnone _ (g.owG i)
theorem kv_distances_of (V : Env K mg) : KnV P w K mg base 5 "distances_of" 2 [] vDists := (kn_distances_of V).imp dists_lift
end K17
namespace K17
open PySem PySem.Spec PyProof.Rows L2 Dv Vl
/-! ### the rows of a walk, read off from its end -/
noncomputable def runF (kvs : List (Key × PV)) (bs : List Str) : Rows := bs.foldl (fullR kvs) fun _ => []
theorem run_snoc {kvs : List (Key × PV)} {bs : List Str} {b : Str} : runF kvs (bs ++ [b]) = fullR kvs (runF kvs bs) b := by
  unfold runF
  rw [List.foldl_append]
  rfl
theorem dists_snoc {kvs : List (Key × PV)} {b : Str} : ∀ (bs : List Str) (rw : Rows), distsV kvs rw (bs ++ [b]) = distsV kvs rw bs ++ [match lkS kvs b with | some i => distV b (bs.foldl (fullR kvs) rw i) | none => .non]
  | [], rw => rfl
  | c :: bs, rw => by
    simp only [List.cons_append, distsV, List.foldl_cons]
    rw [dists_snoc bs]
theorem front_mem {b y : Str} {l : List Str} : y ∈ frontL b l ↔ y = b ∨ y ∈ l := by
  unfold frontL
  rw [List.mem_cons, List.mem_filter]
  by_cases h : y = b <;> simp [h]
theorem front_nd {b : Str} {l : List Str} (h : l.Nodup) : (frontL b l).Nodup := by
  unfold frontL
  exact List.nodup_cons.mpr ⟨fun z => by simpa using (List.mem_filter.mp z).2, h.sublist (List.filter_sublist)⟩
theorem run_ok {kvs : List (Key × PV)} (bs : List Str) : ∀ i, (runF kvs bs i).Nodup ∧ ∀ y, y ∈ runF kvs bs i ↔ y ∈ bs ∧ lkS kvs y = some i := by
  refine snoc_ind (C := fun bs => ∀ i, (runF kvs bs i).Nodup ∧ ∀ y, y ∈ runF kvs bs i ↔ y ∈ bs ∧ lkS kvs y = some i) (fun i => ⟨List.nodup_nil, fun y => by simp [runF]⟩) (fun u b ih i => ?_) bs
  rw [run_snoc]
  unfold fullR
  cases e : lkS kvs b with
  | none =>
    refine ⟨(ih i).1, fun y => ?_⟩
    rw [(ih i).2, List.mem_append, List.mem_singleton]
    constructor
    · exact fun ⟨a, c⟩ => ⟨.inl a, c⟩
    · rintro ⟨a | a, c⟩
      · exact ⟨a, c⟩
      · rw [a, e] at c; cases c
  | some j =>
    simp only [setR]
    split
    · rename_i hij
      subst hij
      refine ⟨front_nd (ih i).1, fun y => ?_⟩
      rw [front_mem, (ih i).2, List.mem_append, List.mem_singleton]
      constructor
      · rintro (a | ⟨a, c⟩)
        · exact ⟨.inr a, by rw [a]; exact e⟩
        · exact ⟨.inl a, c⟩
      · rintro ⟨a | a, c⟩
        · exact .inr ⟨a, c⟩
        · exact .inl a
    · rename_i hij
      refine ⟨(ih i).1, fun y => ?_⟩
      rw [(ih i).2, List.mem_append, List.mem_singleton]
      constructor
      · exact fun ⟨a, c⟩ => ⟨.inl a, c⟩
      · rintro ⟨a | a, c⟩
        · exact ⟨a, c⟩
        · rw [a, e] at c; exact absurd (Option.some.inj c).symm hij
theorem tw_filter {b : Str} {p : Str → Bool} (hp : p b = true) : ∀ l : List Str, ((l.filter p).takeWhile fun y => decide (y ≠ b)) = (l.takeWhile fun y => decide (y ≠ b)).filter p
  | [] => rfl
  | a :: l => by
    by_cases h : a = b
    · subst h
      simp [hp]
    · have hd : decide (a ≠ b) = true := decide_eq_true h
      cases hpa : p a
      · simp only [List.filter_cons, hpa, Bool.false_eq_true, if_false, List.takeWhile_cons, hd, if_true, tw_filter hp l]
      · simp only [List.filter_cons, hpa, if_true, List.takeWhile_cons, hd, tw_filter hp l]
/-- before b in its row stand those that came behind b -/
theorem run_pre {kvs : List (Key × PV)} (bs : List Str) : ∀ i b, b ∈ runF kvs bs i → ∀ y, y ∈ ((runF kvs bs i).takeWhile fun y => decide (y ≠ b)) ↔ y ∈ aft b bs ∧ y ≠ b ∧ lkS kvs y = some i := by
  refine snoc_ind (C := fun bs => ∀ i b, b ∈ runF kvs bs i → ∀ y, y ∈ ((runF kvs bs i).takeWhile fun y => decide (y ≠ b)) ↔ y ∈ aft b bs ∧ y ≠ b ∧ lkS kvs y = some i) (fun i b h => by simp [runF] at h) (fun u c ih i b hb y => ?_) bs
  have hmem := ((run_ok (kvs := kvs) (u ++ [c]) i).2 b).mp hb
  rw [run_snoc] at hb ⊢
  rw [aft_snoc]
  unfold fullR at hb ⊢
  have off : lkS kvs c ≠ some i → (y ∈ ((runF kvs u i).takeWhile fun y => decide (y ≠ b)) ↔ y ∈ (if c = b then [] else aft b u ++ [c]) ∧ y ≠ b ∧ lkS kvs y = some i) := fun hc => by
    have hcb : c ≠ b := fun z => hc (by rw [z]; exact hmem.2)
    have hbu : b ∈ runF kvs u i := ((run_ok u i).2 b).mpr ⟨(List.mem_append.mp hmem.1).resolve_right fun z => hcb (List.mem_singleton.mp z).symm, hmem.2⟩
    rw [ih i b hbu y, if_neg hcb, List.mem_append, List.mem_singleton]
    constructor
    · exact fun ⟨a, d⟩ => ⟨.inl a, d⟩
    · rintro ⟨a | a, d⟩
      · exact ⟨a, d⟩
      · rw [a] at d; exact absurd d.2 hc
  cases e : lkS kvs c with
  | none =>
    simp only [e] at off ⊢
    exact off (by simp)
  | some j =>
    simp only [e, setR] at hb ⊢
    by_cases hij : i = j
    · subst hij
      rw [if_pos rfl] at hb ⊢
      by_cases hcb : c = b
      · subst hcb
        rw [if_pos rfl]
        simp [frontL]
      · have hd : decide (c ≠ b) = true := decide_eq_true hcb
        have hbu : b ∈ runF kvs u i := (front_mem.mp hb).resolve_left fun z => hcb z.symm
        rw [if_neg hcb]
        unfold frontL
        simp only [List.takeWhile_cons, hd, if_true]
        rw [tw_filter (p := fun o => decide (o ≠ c)) (decide_eq_true fun z => hcb z.symm), List.mem_cons, List.mem_filter, ih i b hbu y, List.mem_append, List.mem_singleton]
        constructor
        · rintro (a | ⟨⟨a, d⟩, _⟩)
          · exact ⟨.inr a, by rw [a]; exact ⟨hcb, e⟩⟩
          · exact ⟨.inl a, d⟩
        · rintro ⟨a | a, d⟩
          · by_cases z : y = c
            · exact .inl z
            · exact .inr ⟨⟨a, d⟩, decide_eq_true z⟩
          · exact .inl a
    · rw [if_neg hij]
      exact off fun z => hij (by rw [e] at z; exact (Option.some.inj z).symm)
end K17
namespace K17
open PySem PySem.Spec PyProof.Rows L2 Dv Vl
theorem lk_other {kvs : List (Key × PV)} (hs : LayP kvs) {b y : Str} {i : Nat} (hb : (.inr b : Key) ∈ kvs.map (·.1)) (hi : lkS kvs b = some i) (hy : (.inr y : Key) ∈ kvs.map (·.1)) : other kvs b y = true ↔ y ≠ b ∧ lkS kvs y = some i := by
  obtain ⟨j, e1, _, e2⟩ := lk_some hs hb
  obtain ⟨k, f1, _, f2⟩ := lk_some hs hy
  rw [hi] at e1
  cases e1
  unfold other
  rw [e2, f2, f1, Bool.and_eq_true, decide_eq_true_eq, decide_eq_true_eq]
  simp
  intro _
  omega
theorem dist_due {kvs : List (Key × PV)} (hs : LayP kvs) {b : Str} {bs : List Str} {i : Nat} (hb : (.inr b : Key) ∈ kvs.map (·.1)) (hbs : ∀ y ∈ bs, (.inr y : Key) ∈ kvs.map (·.1)) (hi : lkS kvs b = some i) : distV b (runF kvs bs i) = gapV (dueE kvs b bs) := by
  obtain ⟨nd, hm⟩ := run_ok (kvs := kvs) bs i
  unfold distV
  by_cases h : b ∈ runF kvs bs i
  · have hin := ((hm b).mp h).1
    have hc := srt_count (os := (runF kvs bs i).takeWhile fun y => decide (y ≠ b)) (l := (aft b bs).filter (other kvs b)) (nd.sublist (List.takeWhile_sublist _)) fun y => by
      rw [run_pre bs i b h y, List.mem_filter]
      constructor
      · exact fun ⟨a, c⟩ => ⟨a, (lk_other hs hb hi (hbs y (aft_sub y a))).mpr c⟩
      · exact fun ⟨a, c⟩ => ⟨a, (lk_other hs hb hi (hbs y (aft_sub y a))).mp c⟩
    have hl : ((runF kvs bs i).takeWhile fun y => decide (y ≠ b)).length = (runF kvs bs i).idxOf b := by
      rw [tw_take, List.length_take]
      exact Nat.min_eq_left (Nat.le_of_lt (List.idxOf_lt_length_of_mem h))
    rw [if_pos h]
    simp only [gapV, dueE, hin, decide_true, if_true, hc, hl]
  · have hin : b ∉ bs := fun z => h ((hm b).mpr ⟨z, hi⟩)
    have hc := srt_count (os := runF kvs bs i) (l := (aft b bs).filter (other kvs b)) nd fun y => by
      rw [aft_all hin, List.mem_filter, hm]
      constructor
      · exact fun ⟨a, c⟩ => ⟨a, (lk_other hs hb hi (hbs y a)).mpr ⟨fun z => hin (by rw [← z]; exact a), c⟩⟩
      · exact fun ⟨a, c⟩ => ⟨a, ((lk_other hs hb hi (hbs y a)).mp c).2⟩
    rw [if_neg h]
    simp only [gapV, dueE, decide_eq_false hin, Bool.false_eq_true, if_false, hc]
/-- the last distance of a walk -/
theorem dists_last {kvs : List (Key × PV)} (hs : LayP kvs) {b : Str} {bs : List Str} (hb : (.inr b : Key) ∈ kvs.map (·.1)) (hbs : ∀ y ∈ bs, (.inr y : Key) ∈ kvs.map (·.1)) : distsV kvs (fun _ => []) (bs ++ [b]) = distsV kvs (fun _ => []) bs ++ [gapV (dueE kvs b bs)] := by
  obtain ⟨i, hi, _⟩ := lk_some hs hb
  rw [dists_snoc, hi]
  show _ ++ [distV b (runF kvs bs i)] = _
  rw [dist_due hs hb hbs hi]
end K17
namespace K17
open PySem PySem.Spec PyProof.Rows L2 Dv Vl
variable {P : Program} {w : World} {K : Fr0} {mg : Str → Option Value} {base : Heap}
/-! ### the layout turned -/
theorem lay_rev {kvs : List (Key × PV)} (h : LayP kvs) : LayP kvs.reverse :=
  ⟨by rw [List.length_reverse]; exact h.len, by rw [List.map_reverse]; exact (List.reverse_perm _).nodup_iff.mpr h.nd, fun kv hkv => h.ok kv (List.mem_reverse.mp hkv)⟩
theorem keys_rev {kvs : List (Key × PV)} {k : Key} : k ∈ kvs.reverse.map (·.1) ↔ k ∈ kvs.map (·.1) := by rw [List.map_reverse, List.mem_reverse]
theorem dget_rev {kvs : List (Key × PV)} (h : LayP kvs) {s : Str} (m : (.inr s : Key) ∈ kvs.map (·.1)) : dgetP kvs.reverse (.inr s) = dgetP kvs (.inr s) := by
  obtain ⟨v, e, hm⟩ := dget_some m
  rw [e]
  exact dget_mem (lay_rev h).nd (List.mem_reverse.mpr hm)
theorem touch_rev {kvs : List (Key × PV)} (h : LayP kvs) {fo b : Str} (mf : (.inr fo : Key) ∈ kvs.map (·.1)) (mb : (.inr b : Key) ∈ kvs.map (·.1)) : touch kvs.reverse fo b = touch kvs fo b := by
  unfold touch
  rw [dget_rev h mf, dget_rev h mb]
theorem elem_rev {kvs : List (Key × PV)} (h : LayP kvs) {fo : Str} (mf : (.inr fo : Key) ∈ kvs.map (·.1)) (bs : List Str) : (∀ b ∈ bs, (.inr b : Key) ∈ kvs.map (·.1)) → elemOf kvs.reverse fo bs = elemOf kvs fo bs := by
  refine snoc_ind (C := fun bs => (∀ b ∈ bs, (.inr b : Key) ∈ kvs.map (·.1)) → elemOf kvs.reverse fo bs = elemOf kvs fo bs) (fun _ => rfl) (fun u b ih hm => ?_) bs
  rw [elem_snoc, elem_snoc, ih fun c hc => hm c (List.mem_append_left _ hc), touch_rev h mf (hm b (by simp))]
theorem keyP_kP (k : Key) : keyP (kP k) = some k := by cases k <;> rfl
theorem pairs_items : ∀ l : List (Key × PV), pairsP (l.map Vl.pairP) = some l
  | [] => rfl
  | (k, v) :: l => by
    simp only [List.map_cons, Vl.pairP, pairsP, keyP_kP, pairs_items l]
theorem turned {kvs : List (Key × PV)} (h : LayP kvs) : dmergeP [] kvs.reverse = kvs.reverse := by
  rw [dmerge_new _ _ (by rw [List.nil_append]; exact (lay_rev h).nd), List.nil_append]
end K17
namespace K17
open PySem PySem.Spec PyProof.Rows L2 Dv Vl
variable {P : Program} {w : World} {K : Fr0} {mg : Str → Option Value} {base : Heap}
theorem okL_str {l : List Str} (h : ∀ s ∈ l, NameS s) : okL (l.map PV.str) = true := okL_strs fun s hs => name_ok (h s hs)
theorem okE {n : Nat} {e : El} (h : ElOk n e) : okP (elV e) = true := by
  simp only [elV, okP, okL, okL_str h.nm, Bool.and_self]
theorem dpE (e : El) : dpP (elV e) = 2 := by
  simp only [elV, dpP, dpL, dpL_strs]
  rfl
theorem cpE (a b : El) : cpP (elV a) (elV b) = true := by
  simp only [elV, cpP, cpL, cpL_strs, Bool.and_self]
theorem cmpE {n m : Nat} {a b : El} (h : ElOk n a) (k : ElOk m b) : Cmp (elV a) (elV b) := .inr ⟨okE h, okE k, cpE a b, by rw [dpE]; decide, by rw [dpE]; decide⟩
theorem shE (e : El) : shP (elV e) = true := by
  have : shL (e.oth.map PV.str) = true := shL_iff.mpr fun t ht => by
    obtain ⟨s, _, rfl⟩ := List.mem_map.mp ht
    rfl
  simp only [elV, shP, shL, this, Bool.and_self]
theorem wtE {n : Nat} {e : El} (h : ElOk n e) : wtP (elV e) ≤ n * 9 + 2 := by
  have := wtL_le (B := 8) (ts := e.oth.map PV.str) fun t ht => by
    obtain ⟨s, hs, rfl⟩ := List.mem_map.mp ht
    exact (h.nm s hs).1.2
  rw [List.length_map] at this
  have hl := h.len
  simp only [elV, wtP, wtL]
  have := Nat.mul_le_mul_right 9 hl
  omega
theorem showE {n : Nat} {e : El} (h : ElOk n e) (hn : n ≤ 1000) : ShowOk (elV e) := show_ok rfl (okE h) (shE e) (by rw [dpE]; decide) (by
  have := wtE h
  have e : (2 : Nat) ^ 20 = 1048576 := by decide
  omega)
theorem okG (a : El) : okP (gapV a) = true := by
  have h1 : PyData.strOk "since" = true := by decide +kernel
  have h2 : PyData.strOk "start" = true := by decide +kernel
  obtain ⟨x, l⟩ := a
  cases x
  · simp only [gapV, okP, okL, Bool.false_eq_true, if_false, h2, Bool.and_self]
  · simp only [gapV, okP, okL, if_true, h1, Bool.and_self]
theorem cmpG (a b : El) : Cmp (gapV a) (gapV b) := .inr ⟨okG a, okG b, by simp [gapV, cpP, cpL], by simp [gapV, dpP, dpL], by simp [gapV, dpP, dpL]⟩
theorem atI_last {α : Type} {xs : List α} {x : α} : atI (xs ++ [x]) (-1) = some x := by
  unfold atI
  have : ixN (xs ++ [x]).length (-1) = some xs.length := by
    unfold ixN
    simp
    omega
  rw [this]
  simp
theorem showG {n : Nat} {e : El} (h : ElOk n e) (hn : n ≤ 1000) : ShowOk (.lst [gapV e, gapV e]) := by
  have hl := h.len
  have hsh : shP (gapV e) = true := by
    have : (-999999999999 : Int) ≤ (e.oth.length : Int) ∧ (e.oth.length : Int) ≤ 999999999999 := ⟨by omega, by omega⟩
    simp [gapV, shP, shL, this]
  have hw : wtP (gapV e) ≤ 100 := by
    have h1 : (("since" : Str)).length = 5 := by decide +kernel
    have h2 : (("start" : Str)).length = 5 := by decide +kernel
    simp only [gapV, wtP, wtL]
    split
    · omega
    · omega
  refine show_ok rfl (by simp only [okP, okL, okG, Bool.and_self]) (by simp only [shP, shL, hsh, Bool.and_self]) (by simp [dpP, dpL, gapV]) ?_
  simp only [wtP, wtL]
  have e : (2 : Nat) ^ 20 = 1048576 := by decide
  omega
def vRight : SpV := fun σ Ψ _ => ∃ (kvs : List (Key × PV)) (bs : List Str) (fo : Str), σ 0 = some (.fr (.dic kvs)) ∧ σ 1 = some (.fr (.lst (bs.map PV.str))) ∧ σ 2 = some (.fr (.str fo)) ∧ LayP kvs ∧ (.inr fo : Key) ∈ kvs.map (·.1) ∧ (∀ b ∈ bs, (.inr b : Key) ∈ kvs.map (·.1)) ∧ bs.length ≤ 100 ∧ Ψ (.fr (.bl true)) nilS
theorem sc__law_right : FnScope ["_law_plan", "_law_seen", "_law_eye", "_law_due_here", "_law_turned", "_law_told", "_law_gap"] ["_law_plan", "_law_seen", "_law_eye"] (defScope (top 36)) := ⟨rfl, rfl, rfl, by decide +kernel, rfl, by decide +kernel, by decide +kernel⟩

theorem kv__law_right (V : Env K mg) : KnVG P w K mg base 6 "_law_right" 3 [] vRight := by
  refine knvg_of (io := []) V.d__law_right sc__law_right rfl (by decide) fun f cdv A outer s H E en hr hg => ⟨_, (evss_cons (evs_par (j := 3) (k := 4) rfl sc__law_right.nd rfl rfl (by decide) rfl rfl (ev_call (fun _ => .nil) (fun _ h => e_kn (kv__law_due V) (hr.mono (by decide)) h) (eva_cons (ev_var (e_var 0)) (eva_cons (ev_var (e_var 1)) (eva_cons (ev_var (e_var 2)) eva_nil)))) (ev_cb (fun _ h => b_dictE V.b_dict h) cv_dict (eva_cons (ev_rev (ev_items (fun _ h => e_listItems V.b_list h) (ev_var (e_var 0)))) eva_nil)) rfl) (evss_cons (evs_set (j := 5) sc__law_right.nd rfl (by first | exact .inl rfl | exact .inr rfl) (ev_lst (eva_cons (ev_call (fun _ => .nil) (fun _ h => e_kn (kv_element_of V) (hr.mono (by decide)) h) (eva_cons (ev_var (e_var 1)) (eva_cons (ev_var (e_var 0)) (eva_cons (ev_var (e_var 2)) eva_nil)))) (eva_cons (ev_callW (fun _ h => e_knW (kvW_element_of V) (hr.mono (by decide)) h) (evk_cons (ev_var (e_var 2)) (evk_cons (ev_var (e_var 4)) (evk_cons (ev_cb (fun _ h => b_tupleE V.b_tuple h) cv_tup (eva_cons (ev_var (e_var 1)) eva_nil)) evk_nil)))) eva_nil)))) (evss_cons (evs_if (evt_w (evw_or (evt_op (fun _ _ h k => et_cmp (o_ne hr.u64) h k) ob_ne.v (ev_cb (fun _ h => b_reprE V.b_repr hg hr.u66 h) cv_repr (eva_cons (ev_var (e_var 5)) eva_nil)) (ev_cb (fun _ h => b_reprE V.b_repr hg hr.u66 h) cv_repr (eva_cons (ev_lst (eva_cons (ev_var (e_var 3)) (eva_cons (ev_var (e_var 3)) eva_nil))) eva_nil))) (evw_or1 (evt_op (fun _ _ h k => et_cmp o_isnot h k) ob_is.v (ev_call (fun _ => .nil) (fun _ h => e_kn (kv_is_element V) (hr.mono (by decide)) h) (eva_cons (ev_op (fun _ _ h k => e_ix hr.u1 h k (fun _ _ => rfl)) ov_ix (ev_var (e_var 5)) ev_int) eva_nil)) ev_bl)))) (evss_one (evs_ret ev_bl)) evss_nil) (evss_cons (evs_set (j := 6) sc__law_right.nd rfl (by first | exact .inl rfl | exact .inr rfl) (ev_call (fun _ => .nil) (fun _ h => e_kn (kv__law_distance V) (hr.mono (by decide)) h) (eva_cons (ev_var (e_var 0)) (eva_cons (ev_var (e_var 1)) (eva_cons (ev_var (e_var 2)) eva_nil))))) (evss_cons (evs_if (evt_op (fun _ _ h k => et_cmp (o_ne hr.u64) h k) ob_ne.v (ev_cb (fun _ h => b_reprE V.b_repr hg hr.u66 h) cv_repr (eva_cons (ev_lst (eva_cons (ev_call (fun _ => .nil) (fun _ h => e_kn (kv_distance_of V) (hr.mono (by decide)) h) (eva_cons (ev_op (fun _ _ h k => e_ix hr.u1 h k (fun _ _ => rfl)) ov_ix (ev_var (e_var 5)) ev_int) eva_nil)) (eva_cons (ev_callW (fun _ h => e_knW (kvW_distance_of V) (hr.mono (by decide)) h) (evk_cons (ev_var (e_var 3)) evk_nil)) eva_nil))) eva_nil)) (ev_cb (fun _ h => b_reprE V.b_repr hg hr.u66 h) cv_repr (eva_cons (ev_lst (eva_cons (ev_var (e_var 6)) (eva_cons (ev_var (e_var 6)) eva_nil))) eva_nil))) (evss_one (evs_ret ev_bl)) evss_nil) (evss_one (evs_ret (ev_op (fun _ _ h k => e_cmp (o_eq hr.u64) h k) ob_eq.v (ev_op (fun _ _ h k => e_ix hr.u1 h k (fun _ _ => rfl)) ov_ix (ev_call (fun _ => .nil) (fun _ h => e_kn (kv_distances_of V) (hr.mono (by decide)) h) (eva_cons (ev_op (fun _ _ h k => e_bin o_add h k) ov_add (ev_var (e_var 1)) (ev_lst (eva_cons (ev_var (e_var 2)) eva_nil))) (eva_cons (ev_var (e_var 0)) eva_nil))) (ev_neg ev_int)) (ev_var (e_var 6)))))))))), ?_⟩
  rintro σ Ψ ΨE ⟨kvs, bs, fo, h0, h1, h2, hs, mf, mb, hl, q⟩
  refine vsq (M := fun τ => τ 0 = some (.fr (.dic kvs)) ∧ τ 1 = some (.fr (.lst (bs.map PV.str))) ∧ τ 2 = some (.fr (.str fo)) ∧ τ 3 = some (.fr (elV (dueE kvs fo bs))) ∧ τ 4 = some (.ow (.dic kvs.reverse))) ?_ fun R hR => ?_
  rotate_left
  · simp only [vItems, Vl.pairP, vIndex, isLP, sortP, ssetP, int2P, joinP, vScr, vCallW, permL, List.filterMap_cons, List.filterMap_nil, vVar, vC, vNil, vCons, fz, vOp, vB, vAnd, vOr, vNot, vAndV, vOrV, vNotV, vIf, bP, vChain, vCB, rdL, vTup, vLst, tkL, vDict0, vNo, vSome, slP, vSl, vRev, vNeg, vIsi2, rd, giv, Vl.tk, vset_ap, eqB, neB, ordB, isB, isNonP, inB, Vl.addP, intP, mulP, ixP, lenP, absP, intCP, listP, tupP, dictP, isiP, tyP, keyP, vNext, vDrop, vRet, vRetN, vIfS, vBreak, vCont, vSet, vAsg, fvN, fvNil, fvCons, fvT, vPar, vIt, itP, vRg1, vRg2, vEnum, vZip, vFor, vForD, vdV, vdF, vLc, vLcD, vYes, vDc, vCall, vCallN, vApp, argV, slA, argS, Vl.cellOf, backV, conS, List.map_nil, List.map_cons, List.append_nil, List.cons_append, List.nil_append, List.length_cons, List.length_nil, List.mem_cons, List.not_mem_nil, List.getElem?_cons_zero, List.getElem?_cons_succ, List.getElem?_nil, or_false, List.nodup_nil, List.nodup_cons, not_false_eq_true, vMut, kdL, appP, extP, popP, insP, vUpd, owD, kdD, vStore, vGet1, vGet2, isDP, vPNil, vPCons, vDisp, vMeth, InsR, vProp, InsQ, vFld, putP, vFldS, vMake, vMakeN, slotsOf_nil, slotsOf_cons, vdel, endsV, endsL, resS, Option.isSome_some, reduceIte, Option.bind_some, true_and, and_true, Nat.reduceEqDiff, Nat.one_ne_zero, Nat.zero_ne_one, not_true_eq_false, false_and, and_false, if_true, if_false, Nat.zero_add, Nat.add_zero, h0, h1, h2, vDue]
    refine ⟨kvs, bs, fo, rfl, rfl, rfl, hs, mf, mb, by omega, ?_⟩
    rw [← List.map_reverse, pairs_items]
    simp only [turned hs]
    exact hR _ ⟨by simpa [vset] using h0, by simpa [vset] using h1, by simpa [vset] using h2, by simp [vset], by simp [vset]⟩
  clear h0 h1 h2
  rintro τ ⟨h0, h1, h2, h3, h4⟩
  have hd := dueE_ok (fo := fo) hs mb
  refine vsq (M := fun τ => τ 0 = some (.fr (.dic kvs)) ∧ τ 1 = some (.fr (.lst (bs.map PV.str))) ∧ τ 2 = some (.fr (.str fo)) ∧ τ 3 = some (.fr (elV (dueE kvs fo bs))) ∧ τ 5 = some (.ow (.lst [elV (dueE kvs fo bs), elV (dueE kvs fo bs)]))) ?_ fun R hR => ?_
  rotate_left
  · simp only [vItems, Vl.pairP, vIndex, isLP, sortP, ssetP, int2P, joinP, vScr, vCallW, permL, List.filterMap_cons, List.filterMap_nil, vVar, vC, vNil, vCons, fz, vOp, vB, vAnd, vOr, vNot, vAndV, vOrV, vNotV, vIf, bP, vChain, vCB, rdL, vTup, vLst, tkL, vDict0, vNo, vSome, slP, vSl, vRev, vNeg, vIsi2, rd, giv, Vl.tk, vset_ap, eqB, neB, ordB, isB, isNonP, inB, Vl.addP, intP, mulP, ixP, lenP, absP, intCP, listP, tupP, dictP, isiP, tyP, keyP, vNext, vDrop, vRet, vRetN, vIfS, vBreak, vCont, vSet, vAsg, fvN, fvNil, fvCons, fvT, vPar, vIt, itP, vRg1, vRg2, vEnum, vZip, vFor, vForD, vdV, vdF, vLc, vLcD, vYes, vDc, vCall, vCallN, vApp, argV, slA, argS, Vl.cellOf, backV, conS, List.map_nil, List.map_cons, List.append_nil, List.cons_append, List.nil_append, List.length_cons, List.length_nil, List.mem_cons, List.not_mem_nil, List.getElem?_cons_zero, List.getElem?_cons_succ, List.getElem?_nil, or_false, List.nodup_nil, List.nodup_cons, not_false_eq_true, vMut, kdL, appP, extP, popP, insP, vUpd, owD, kdD, vStore, vGet1, vGet2, isDP, vPNil, vPCons, vDisp, vMeth, InsR, vProp, InsQ, vFld, putP, vFldS, vMake, vMakeN, slotsOf_nil, slotsOf_cons, vdel, endsV, endsL, resS, Option.isSome_some, reduceIte, Option.bind_some, true_and, and_true, Nat.reduceEqDiff, Nat.one_ne_zero, Nat.zero_ne_one, not_true_eq_false, false_and, and_false, if_true, if_false, Nat.zero_add, Nat.add_zero, h0, h1, h2, h4, vElem]
    refine ⟨_, kvs, fo, bs, rfl, rfl, rfl, rfl, hs, mf, mb, by omega, ?_⟩
    refine ⟨_, kvs.reverse, fo, bs, rfl, rfl, rfl, rfl, lay_rev hs, keys_rev.mpr mf, fun b hb => keys_rev.mpr (mb b hb), by omega, zr (by decide), ?_⟩
    rw [elem_rev hs mf bs mb, elem_due]
    exact hR _ ⟨by simpa [vset] using h0, by simpa [vset] using h1, by simpa [vset] using h2, by simpa [vset] using h3, by simp [vset]⟩
  clear h0 h1 h2 h3 h4
  rintro τ ⟨h0, h1, h2, h3, h4⟩
  have hshow : ShowOk (.lst [elV (dueE kvs fo bs), elV (dueE kvs fo bs)]) := show_ok rfl (by simp only [okP, okL, okE hd, Bool.and_self]) (by simp only [shP, shL, shE, Bool.and_self]) (by simp [dpP, dpL, dpE]) (by
    have h1 := wtE hd
    simp only [wtP, wtL]
    have e : (2 : Nat) ^ 20 = 1048576 := by decide
    omega)
  refine vsq1 (σ1 := τ) (fun R hR => ?_) ?_
  · simp only [vItems, Vl.pairP, vIndex, isLP, sortP, ssetP, int2P, joinP, vScr, vCallW, permL, List.filterMap_cons, List.filterMap_nil, vVar, vC, vNil, vCons, fz, vOp, vB, vAnd, vOr, vNot, vAndV, vOrV, vNotV, vIf, bP, vChain, vCB, rdL, vTup, vLst, tkL, vDict0, vNo, vSome, slP, vSl, vRev, vNeg, vIsi2, rd, giv, Vl.tk, vset_ap, eqB, neB, ordB, isB, isNonP, inB, Vl.addP, intP, mulP, ixP, lenP, absP, intCP, listP, tupP, dictP, isiP, tyP, keyP, vNext, vDrop, vRet, vRetN, vIfS, vBreak, vCont, vSet, vAsg, fvN, fvNil, fvCons, fvT, vPar, vIt, itP, vRg1, vRg2, vEnum, vZip, vFor, vForD, vdV, vdF, vLc, vLcD, vYes, vDc, vCall, vCallN, vApp, argV, slA, argS, Vl.cellOf, backV, conS, List.map_nil, List.map_cons, List.append_nil, List.cons_append, List.nil_append, List.length_cons, List.length_nil, List.mem_cons, List.not_mem_nil, List.getElem?_cons_zero, List.getElem?_cons_succ, List.getElem?_nil, or_false, List.nodup_nil, List.nodup_cons, not_false_eq_true, vMut, kdL, appP, extP, popP, insP, vUpd, owD, kdD, vStore, vGet1, vGet2, isDP, vPNil, vPCons, vDisp, vMeth, InsR, vProp, InsQ, vFld, putP, vFldS, vMake, vMakeN, slotsOf_nil, slotsOf_cons, vdel, endsV, endsL, resS, Option.isSome_some, reduceIte, Option.bind_some, true_and, and_true, Nat.reduceEqDiff, Nat.one_ne_zero, Nat.zero_ne_one, not_true_eq_false, false_and, and_false, if_true, if_false, Nat.zero_add, Nat.add_zero, reprP, h3, h4, at2_0, v1]
    refine ⟨hshow, zr (by decide), hshow, .inl rfl, ?_⟩
    simp only [decide_true, Bool.not_true, Bool.false_eq_true, if_false]
    exact ⟨_, rfl, ⟨_, rfl, hd.mono (by omega)⟩, hR⟩
  refine vsq (M := fun τ => τ 0 = some (.fr (.dic kvs)) ∧ τ 1 = some (.fr (.lst (bs.map PV.str))) ∧ τ 2 = some (.fr (.str fo)) ∧ τ 3 = some (.fr (elV (dueE kvs fo bs))) ∧ τ 5 = some (.ow (.lst [elV (dueE kvs fo bs), elV (dueE kvs fo bs)])) ∧ τ 6 = some (.fr (gapV (dueE kvs fo bs)))) ?_ fun R hR => ?_
  rotate_left
  · simp only [vItems, Vl.pairP, vIndex, isLP, sortP, ssetP, int2P, joinP, vScr, vCallW, permL, List.filterMap_cons, List.filterMap_nil, vVar, vC, vNil, vCons, fz, vOp, vB, vAnd, vOr, vNot, vAndV, vOrV, vNotV, vIf, bP, vChain, vCB, rdL, vTup, vLst, tkL, vDict0, vNo, vSome, slP, vSl, vRev, vNeg, vIsi2, rd, giv, Vl.tk, vset_ap, eqB, neB, ordB, isB, isNonP, inB, Vl.addP, intP, mulP, ixP, lenP, absP, intCP, listP, tupP, dictP, isiP, tyP, keyP, vNext, vDrop, vRet, vRetN, vIfS, vBreak, vCont, vSet, vAsg, fvN, fvNil, fvCons, fvT, vPar, vIt, itP, vRg1, vRg2, vEnum, vZip, vFor, vForD, vdV, vdF, vLc, vLcD, vYes, vDc, vCall, vCallN, vApp, argV, slA, argS, Vl.cellOf, backV, conS, List.map_nil, List.map_cons, List.append_nil, List.cons_append, List.nil_append, List.length_cons, List.length_nil, List.mem_cons, List.not_mem_nil, List.getElem?_cons_zero, List.getElem?_cons_succ, List.getElem?_nil, or_false, List.nodup_nil, List.nodup_cons, not_false_eq_true, vMut, kdL, appP, extP, popP, insP, vUpd, owD, kdD, vStore, vGet1, vGet2, isDP, vPNil, vPCons, vDisp, vMeth, InsR, vProp, InsQ, vFld, putP, vFldS, vMake, vMakeN, slotsOf_nil, slotsOf_cons, vdel, endsV, endsL, resS, Option.isSome_some, reduceIte, Option.bind_some, true_and, and_true, Nat.reduceEqDiff, Nat.one_ne_zero, Nat.zero_ne_one, not_true_eq_false, false_and, and_false, if_true, if_false, Nat.zero_add, Nat.add_zero, h0, h1, h2, vDist]
    exact ⟨kvs, bs, fo, rfl, rfl, rfl, hs, mf, mb, by omega, hR _ ⟨by simpa [vset] using h0, by simpa [vset] using h1, by simpa [vset] using h2, by simpa [vset] using h3, by simpa [vset] using h4, by simp [vset]⟩⟩
  clear h0 h1 h2 h3 h4
  rintro τ ⟨h0, h1, h2, h3, h4, h5⟩
  refine vsq1 (σ1 := τ) (fun R hR => ?_) ?_
  · simp only [vItems, Vl.pairP, vIndex, isLP, sortP, ssetP, int2P, joinP, vScr, vCallW, permL, List.filterMap_cons, List.filterMap_nil, vVar, vC, vNil, vCons, fz, vOp, vB, vAnd, vOr, vNot, vAndV, vOrV, vNotV, vIf, bP, vChain, vCB, rdL, vTup, vLst, tkL, vDict0, vNo, vSome, slP, vSl, vRev, vNeg, vIsi2, rd, giv, Vl.tk, vset_ap, eqB, neB, ordB, isB, isNonP, inB, Vl.addP, intP, mulP, ixP, lenP, absP, intCP, listP, tupP, dictP, isiP, tyP, keyP, vNext, vDrop, vRet, vRetN, vIfS, vBreak, vCont, vSet, vAsg, fvN, fvNil, fvCons, fvT, vPar, vIt, itP, vRg1, vRg2, vEnum, vZip, vFor, vForD, vdV, vdF, vLc, vLcD, vYes, vDc, vCall, vCallN, vApp, argV, slA, argS, Vl.cellOf, backV, conS, List.map_nil, List.map_cons, List.append_nil, List.cons_append, List.nil_append, List.length_cons, List.length_nil, List.mem_cons, List.not_mem_nil, List.getElem?_cons_zero, List.getElem?_cons_succ, List.getElem?_nil, or_false, List.nodup_nil, List.nodup_cons, not_false_eq_true, vMut, kdL, appP, extP, popP, insP, vUpd, owD, kdD, vStore, vGet1, vGet2, isDP, vPNil, vPCons, vDisp, vMeth, InsR, vProp, InsQ, vFld, putP, vFldS, vMake, vMakeN, slotsOf_nil, slotsOf_cons, vdel, endsV, endsL, resS, Option.isSome_some, reduceIte, Option.bind_some, true_and, and_true, Nat.reduceEqDiff, Nat.one_ne_zero, Nat.zero_ne_one, not_true_eq_false, false_and, and_false, if_true, if_false, Nat.zero_add, Nat.add_zero, reprP, h3, h4, h5, at2_0]
    refine ⟨_, rfl, hd.mono (by omega), _, rfl, hd.mono (by omega), zr (by decide), showG hd (by omega), zr (by decide), showG hd (by omega), .inl rfl, ?_⟩
    simp only [decide_true, Bool.not_true, Bool.false_eq_true, if_false]
    exact hR
  · simp only [vItems, Vl.pairP, vIndex, isLP, sortP, ssetP, int2P, joinP, vScr, vCallW, permL, List.filterMap_cons, List.filterMap_nil, vVar, vC, vNil, vCons, fz, vOp, vB, vAnd, vOr, vNot, vAndV, vOrV, vNotV, vIf, bP, vChain, vCB, rdL, vTup, vLst, tkL, vDict0, vNo, vSome, slP, vSl, vRev, vNeg, vIsi2, rd, giv, Vl.tk, vset_ap, eqB, neB, ordB, isB, isNonP, inB, Vl.addP, intP, mulP, ixP, lenP, absP, intCP, listP, tupP, dictP, isiP, tyP, keyP, vNext, vDrop, vRet, vRetN, vIfS, vBreak, vCont, vSet, vAsg, fvN, fvNil, fvCons, fvT, vPar, vIt, itP, vRg1, vRg2, vEnum, vZip, vFor, vForD, vdV, vdF, vLc, vLcD, vYes, vDc, vCall, vCallN, vApp, argV, slA, argS, Vl.cellOf, backV, conS, List.map_nil, List.map_cons, List.append_nil, List.cons_append, List.nil_append, List.length_cons, List.length_nil, List.mem_cons, List.not_mem_nil, List.getElem?_cons_zero, List.getElem?_cons_succ, List.getElem?_nil, or_false, List.nodup_nil, List.nodup_cons, not_false_eq_true, vMut, kdL, appP, extP, popP, insP, vUpd, owD, kdD, vStore, vGet1, vGet2, isDP, vPNil, vPCons, vDisp, vMeth, InsR, vProp, InsQ, vFld, putP, vFldS, vMake, vMakeN, slotsOf_nil, slotsOf_cons, vdel, endsV, endsL, resS, Option.isSome_some, reduceIte, Option.bind_some, true_and, and_true, Nat.reduceEqDiff, Nat.one_ne_zero, Nat.zero_ne_one, not_true_eq_false, false_and, and_false, if_true, if_false, Nat.zero_add, Nat.add_zero, h0, h1, h2, h5, vDists]
    refine ⟨zr (by decide), by rw [List.length_map, sizeLine_eq]; omega, kvs, bs ++ [fo], by rw [List.map_append]; rfl, rfl, hs, fun b hb => ?_, by rw [List.length_append]; simp; omega, ?_⟩
    · rcases List.mem_append.mp hb with z | z
      · exact mb b z
      · rw [List.mem_singleton.mp z]; exact mf
    · rw [dists_last hs mf mb, atI_last]
      refine ⟨cmpG _ _, ?_⟩
      simp only [decide_true, res_nil]
      exact q
end K17
namespace K17
open PySem PySem.Spec PyProof.Rows L2 Dv Vl
variable {P : Program} {w : World} {K : Fr0} {mg : Str → Option Value} {base : Heap}
theorem lay_keys {kvs : List (Key × PV)} (h : LayP kvs) : ∃ ss : List Str, kvs.map (·.1) = ss.map Sum.inr ∧ ss.length = kvs.length := by
  refine ⟨kvs.map fun kv => match kv.1 with | .inr s => s | .inl _ => Str.empty, ?_, by simp⟩
  rw [List.map_map]
  refine List.map_congr_left fun kv hkv => ?_
  obtain ⟨s, i, e, _⟩ := h.ok kv hkv
  rw [e]
  rfl
/-- what repr tells of the touches and the layout -/
def shownQ (sn : List Str) (kvs : List (Key × PV)) : Str := (PyData.list (pqL [.lst (sn.map PV.str), .dic kvs])).shown
theorem show_sp {kvs : List (Key × PV)} {sn : List Str} (h : LayP kvs) (hk : ∀ b ∈ sn, (.inr b : Key) ∈ kvs.map (·.1)) (hl : sn.length ≤ 14) : QOk [.lst (sn.map PV.str), .dic kvs] := by
  have hn : ∀ b ∈ sn, NameS b := fun b hb => (lay_get h (hk b hb)).1
  refine qok (by simp) ?_ (fun p hp => ?_) ?_ ?_
  · simp only [qsL, qsP, Bool.and_true, Bool.and_eq_true]
    refine ⟨qsL_iff.mpr fun p hp => ?_, qsK_iff.mpr fun kv hkv => ?_⟩
    · obtain ⟨b, hb, rfl⟩ := List.mem_map.mp hp
      exact name_ok (hn b hb)
    · obtain ⟨s, i, rfl, h1, h2, h3⟩ := h.ok kv hkv
      exact ⟨name_ok h1, decide_eq_true ⟨by omega, by omega⟩⟩
  · simp only [List.mem_cons, List.not_mem_nil, or_false] at hp
    rcases hp with rfl | rfl
    · refine .inl (ndL_iff.mpr fun p hp => ?_)
      obtain ⟨b, hb, rfl⟩ := List.mem_map.mp hp
      rfl
    · refine .inr (nlK_iff.mpr fun kv hkv => ?_)
      obtain ⟨s, i, rfl, h1, h2, h3⟩ := h.ok kv hkv
      rfl
  · have h1 : qdL (sn.map PV.str) ≤ 0 := qdL_le fun p hp => by
      obtain ⟨b, hb, rfl⟩ := List.mem_map.mp hp
      exact Nat.le_refl _
    have h2 : qdK kvs ≤ 0 := qdK_le fun kv hkv => by
      obtain ⟨s, i, rfl, h1, h2, h3⟩ := h.ok kv hkv
      exact Nat.le_refl _
    simp only [qdL, qdP]
    omega
  · have h1 := qwL_le (B := 8) (ts := sn.map PV.str) fun p hp => by
      obtain ⟨b, hb, rfl⟩ := List.mem_map.mp hp
      exact (hn b hb).1.2
    have h2 := qwK_le (B := 49) (ts := kvs) fun kv hkv => by
      obtain ⟨s, i, rfl, h1, h2, h3⟩ := h.ok kv hkv
      have := h1.1.2
      simp only [qwKey, qwP]
      omega
    have h3 := h.len.2
    rw [List.length_map] at h1
    simp only [qwL, qwP]
    have e : (2 : Nat) ^ 20 = 1048576 := by decide
    omega
theorem sc_law : FnScope ["_law_script", "_law_draw", "_law_turn", "_law_menu", "_law_plan", "_law_some", "_law_seen", "_law_k", "_law_shown", "_law_eye"] ["_law_script"] (defScope (top 37)) := ⟨rfl, rfl, rfl, by decide +kernel, rfl, by decide +kernel, by decide +kernel⟩

theorem law_fn {f : Addr} {fd : FuncData} (F : Fun K "law" "law" (top 37) f fd) (V : Env K mg) : FnG P w K mg base (L2.CX P w) 10 f fd ["_law_script"] (lowScr K spLawT) := by
  refine lawVG_of F sc_law rfl (by decide) fun cdv A outer s H E en a ns hr hg hn hS => ⟨_, _, _, rfl, (s_set (j := 1) sc_law.nd rfl (by first | exact .inl rfl | exact .inr rfl) (e_knB (kn__law_begin V) hn hS (hr.mono (by decide)) (e_var 0))), (evss_cons (evs_for (passes_of rfl) rfl (evi_rg1 (fun _ h => i_rg1 rfl V.b_range h) (eva_cons (ev_op (fun _ _ h k => e_bin o_mul h k) ov_mul ev_int (ev_cb (fun _ h => b_maxE V.b_max h) cv_int2 (eva_cons ev_int (eva_cons (ev_cb (fun _ h => b_minE V.b_min h) cv_int2 (eva_cons ev_int (eva_cons (ev_scr (j := 0) (b_lenScrE V.b_len hS (ea_cons (e_var 0) ea_nil))) eva_nil))) eva_nil)))) eva_nil)) (gv_name (j := 2) sc_law.nd rfl (by first | exact .inl rfl | exact .inr rfl)) (evss_cons (evs_set (j := 3) sc_law.nd rfl (by first | exact .inl rfl | exact .inr rfl) (ev_call (fun _ => .nil) (fun _ h => e_kn (kv__law_blocks V) (hr.mono (by decide)) h) (eva_cons (ev_var (e_var 1)) eva_nil))) (evss_cons (evs_set (j := 4) sc_law.nd rfl (by first | exact .inl rfl | exact .inr rfl) (ev_call (fun _ => .nil) (fun _ h => e_kn (kv__law_layout V) (hr.mono (by decide)) h) (eva_cons (ev_var (e_var 1)) (eva_cons (ev_var (e_var 3)) (eva_cons (ev_op (fun _ _ h k => e_bin o_add h k) ov_add ev_int (ev_call (fun _ => .nil) (fun _ h => e_kn (kv__law_take V) (hr.mono (by decide)) h) (eva_cons (ev_var (e_var 1)) (eva_cons ev_int eva_nil)))) eva_nil))))) (evss_cons (evs_set (j := 5) sc_law.nd rfl (by first | exact .inl rfl | exact .inr rfl) (ev_slice (ev_call (fun _ => .nil) (fun _ h => e_kn (kv__law_shuffled V) (hr.mono (by decide)) h) (eva_cons (ev_var (e_var 1)) (eva_cons (ev_cb (fun _ h => b_sortedE V.b_sorted h) cv_sorted (eva_cons (ev_var (e_var 4)) eva_nil)) eva_nil))) evo_none (evo_some (ev_op (fun _ _ h k => e_bin o_add h k) ov_add ev_int (ev_call (fun _ => .nil) (fun _ h => e_kn (kv__law_take V) (hr.mono (by decide)) h) (eva_cons (ev_var (e_var 1)) (eva_cons ev_int eva_nil))))))) (evss_cons (evs_setLc (j := 6) [("_law_k", 7)] sc_law.nd (evi_rg1 (fun _ h => i_rg1 rfl V.b_range h) (eva_cons (ev_call (fun _ => .nil) (fun _ h => e_kn (kv__law_take V) (hr.mono (by decide)) h) (eva_cons (ev_var (e_var 1)) (eva_cons ev_int eva_nil))) eva_nil)) (fun _ _ _ _ _ => (gv_name (j := 7) sc_law.nd rfl (by first | exact .inl rfl | exact .inr rfl))) (fun _ _ _ _ _ => evts_nil) (fun _ _ _ _ _ => (ev_call (fun _ => .nil) (fun _ h => e_kn (kv__law_pick V) (hr.mono (by decide)) h) (eva_cons (ev_var (e_var 1)) (eva_cons (ev_var (e_var 5)) eva_nil)))) only_name) (evss_cons (evs_set (j := 8) sc_law.nd rfl (by first | exact .inl rfl | exact .inr rfl) (ev_cb (fun _ h => b_reprQE V.b_repr hg hr.u66 h) cv_reprQ (eva_cons (ev_lst (eva_cons (ev_var (e_var 6)) (eva_cons (ev_var (e_var 4)) eva_nil))) eva_nil))) (evss_cons (evs_for (passes_of rfl) rfl (evi_val (ev_cb (fun _ h => b_sortedE V.b_sorted h) cv_sorted (eva_cons (ev_var (e_var 4)) eva_nil))) (gv_name (j := 9) sc_law.nd rfl (by first | exact .inl rfl | exact .inr rfl)) (evss_one (evs_if (evt_not (evt_val (ev_call (fun _ => .nil) (fun _ h => e_kng (kv__law_right V) (hr.mono (by decide)) hg h) (eva_cons (ev_var (e_var 4)) (eva_cons (ev_var (e_var 6)) (eva_cons (ev_var (e_var 9)) eva_nil)))))) (evss_one (evs_ret ev_bl)) evss_nil))) (evss_one (evs_if (evt_w (evw_or (evt_op (fun _ _ h k => et_cmp (o_ne hr.u64) h k) ob_ne.v (ev_cb (fun _ h => b_reprQE V.b_repr hg hr.u66 h) cv_reprQ (eva_cons (ev_lst (eva_cons (ev_var (e_var 6)) (eva_cons (ev_var (e_var 4)) eva_nil))) eva_nil)) (ev_var (e_var 8))) (evw_or1 (evt_op (fun _ _ h k => et_cmp (o_ne hr.u64) h k) ob_ne.v (ev_call (fun _ => .nil) (fun _ h => e_kn (kv_element_of V) (hr.mono (by decide)) h) (eva_cons (ev_lst eva_nil) (eva_cons (ev_var (e_var 4)) (eva_cons (ev_op (fun _ _ h k => e_ix hr.u1 h k (fun _ _ => rfl)) ov_ix (ev_var (e_var 3)) ev_int) eva_nil)))) (ev_glob (e_gTup V.g_NOTHING) (fun _ => (.tup (.cons (.bl _) (.cons (.tup .nil) .nil))))))))) (evss_one (evs_ret ev_bl)) evss_nil))))))))) (evss_one (evs_ret (ev_op (fun _ _ h k => e_cmp (o_eq hr.u64) h k) ob_eq.v (ev_cb (fun _ h => b_reprE V.b_repr hg hr.u66 h) cv_repr (eva_cons (ev_glob (e_gTup V.g_NOTHING) (fun _ => (.tup (.cons (.bl _) (.cons (.tup .nil) .nil))))) eva_nil)) (ev_cb (fun _ h => b_reprE V.b_repr hg hr.u66 h) cv_repr (eva_cons (ev_tup (eva_cons ev_bl (eva_cons (ev_tup eva_nil) eva_nil))) eva_nil)))))), ?_⟩
  have hmd : mostDraws = 10 ^ 9 := rfl
  refine vsq (M := fun _ => True) ?_ fun R hR => ?_
  · intro τ _
    simp only [vItems, Vl.pairP, vIndex, isLP, sortP, ssetP, int2P, joinP, vScr, vCallW, permL, List.filterMap_cons, List.filterMap_nil, vVar, vC, vNil, vCons, fz, vOp, vB, vAnd, vOr, vNot, vAndV, vOrV, vNotV, vIf, bP, vChain, vCB, rdL, vTup, vLst, tkL, vDict0, vNo, vSome, slP, vSl, vRev, vNeg, vIsi2, rd, giv, Vl.tk, vset_ap, eqB, neB, ordB, isB, isNonP, inB, Vl.addP, intP, mulP, ixP, lenP, absP, intCP, listP, tupP, dictP, isiP, tyP, keyP, vNext, vDrop, vRet, vRetN, vIfS, vBreak, vCont, vSet, vAsg, fvN, fvNil, fvCons, fvT, vPar, vIt, itP, vRg1, vRg2, vEnum, vZip, vFor, vForD, vdV, vdF, vLc, vLcD, vYes, vDc, vCall, vCallN, vApp, argV, slA, argS, Vl.cellOf, backV, conS, List.map_nil, List.map_cons, List.append_nil, List.cons_append, List.nil_append, List.length_cons, List.length_nil, List.mem_cons, List.not_mem_nil, List.getElem?_cons_zero, List.getElem?_cons_succ, List.getElem?_nil, or_false, List.nodup_nil, List.nodup_cons, not_false_eq_true, vMut, kdL, appP, extP, popP, insP, vUpd, owD, kdD, vStore, vGet1, vGet2, isDP, vPNil, vPCons, vDisp, vMeth, InsR, vProp, InsQ, vFld, putP, vFldS, vMake, vMakeN, slotsOf_nil, slotsOf_cons, vdel, endsV, endsL, resS, Option.isSome_some, reduceIte, Option.bind_some, true_and, and_true, Nat.reduceEqDiff, Nat.one_ne_zero, Nat.zero_ne_one, not_true_eq_false, false_and, and_false, if_true, if_false, Nat.zero_add, Nat.add_zero, reprP]
    have hn0 : ShowOk (.tup [.bl false, .tup []]) := showE (e := nothing) (n := 0) nothing_ok (by decide)
    exact ⟨hn0, zr (by decide), zr (by decide), hn0, .inl rfl, by simp⟩
  · simp only [vItems, Vl.pairP, vIndex, isLP, sortP, ssetP, int2P, joinP, vScr, vCallW, permL, List.filterMap_cons, List.filterMap_nil, vVar, vC, vNil, vCons, fz, vOp, vB, vAnd, vOr, vNot, vAndV, vOrV, vNotV, vIf, bP, vChain, vCB, rdL, vTup, vLst, tkL, vDict0, vNo, vSome, slP, vSl, vRev, vNeg, vIsi2, rd, giv, Vl.tk, vset_ap, eqB, neB, ordB, isB, isNonP, inB, Vl.addP, intP, mulP, ixP, lenP, absP, intCP, listP, tupP, dictP, isiP, tyP, keyP, vNext, vDrop, vRet, vRetN, vIfS, vBreak, vCont, vSet, vAsg, fvN, fvNil, fvCons, fvT, vPar, vIt, itP, vRg1, vRg2, vEnum, vZip, vFor, vForD, vdV, vdF, vLc, vLcD, vYes, vDc, vCall, vCallN, vApp, argV, slA, argS, Vl.cellOf, backV, conS, List.map_nil, List.map_cons, List.append_nil, List.cons_append, List.nil_append, List.length_cons, List.length_nil, List.mem_cons, List.not_mem_nil, List.getElem?_cons_zero, List.getElem?_cons_succ, List.getElem?_nil, or_false, List.nodup_nil, List.nodup_cons, not_false_eq_true, vMut, kdL, appP, extP, popP, insP, vUpd, owD, kdD, vStore, vGet1, vGet2, isDP, vPNil, vPCons, vDisp, vMeth, InsR, vProp, InsQ, vFld, putP, vFldS, vMake, vMakeN, slotsOf_nil, slotsOf_cons, vdel, endsV, endsL, resS, Option.isSome_some, reduceIte, Option.bind_some, true_and, and_true, Nat.reduceEqDiff, Nat.one_ne_zero, Nat.zero_ne_one, not_true_eq_false, false_and, and_false, if_true, if_false, Nat.zero_add, Nat.add_zero]
    obtain ⟨m, hm⟩ : ∃ m : Int, m = (if (if (ns.length : Int) < 8 then (ns.length : Int) else 8) > 1 then if (ns.length : Int) < 8 then (ns.length : Int) else 8 else 1) := ⟨_, rfl⟩
    rw [← hm]
    have hm1 : 1 ≤ m ∧ m ≤ 8 := by
      rw [hm]
      split <;> split at * <;> omega
    refine ⟨rfl, .inl ⟨by decide, by decide⟩, ⟨by omega, by omega⟩, ?_⟩
    refine forV_ind (I := fun r τ => ∃ n, τ 1 = some (.ab (drw n)) ∧ n + 200 * r.length ≤ 6000) ?_ ?_ _ _ ⟨0, rfl, by simp [rgL]; omega⟩
    · exact fun τ _ => hR _ trivial
    rintro x r τ ⟨n, e1, hnr⟩
    rw [List.length_cons] at hnr
    refine ⟨_, rfl, fun R hR => ?_⟩
    refine vsq (M := fun τ => ∃ bs, τ 1 = some (.ab (drw (n + 8))) ∧ τ 3 = some (.ow (.lst (bs.map PV.str))) ∧ BlkP bs) ?_ fun R' hR' => ?_
    rotate_left
    · simp only [vItems, Vl.pairP, vIndex, isLP, sortP, ssetP, int2P, joinP, vScr, vCallW, permL, List.filterMap_cons, List.filterMap_nil, vVar, vC, vNil, vCons, fz, vOp, vB, vAnd, vOr, vNot, vAndV, vOrV, vNotV, vIf, bP, vChain, vCB, rdL, vTup, vLst, tkL, vDict0, vNo, vSome, slP, vSl, vRev, vNeg, vIsi2, rd, giv, Vl.tk, vset_ap, eqB, neB, ordB, isB, isNonP, inB, Vl.addP, intP, mulP, ixP, lenP, absP, intCP, listP, tupP, dictP, isiP, tyP, keyP, vNext, vDrop, vRet, vRetN, vIfS, vBreak, vCont, vSet, vAsg, fvN, fvNil, fvCons, fvT, vPar, vIt, itP, vRg1, vRg2, vEnum, vZip, vFor, vForD, vdV, vdF, vLc, vLcD, vYes, vDc, vCall, vCallN, vApp, argV, slA, argS, Vl.cellOf, backV, conS, List.map_nil, List.map_cons, List.append_nil, List.cons_append, List.nil_append, List.length_cons, List.length_nil, List.mem_cons, List.not_mem_nil, List.getElem?_cons_zero, List.getElem?_cons_succ, List.getElem?_nil, or_false, List.nodup_nil, List.nodup_cons, not_false_eq_true, vMut, kdL, appP, extP, popP, insP, vUpd, owD, kdD, vStore, vGet1, vGet2, isDP, vPNil, vPCons, vDisp, vMeth, InsR, vProp, InsQ, vFld, putP, vFldS, vMake, vMakeN, slotsOf_nil, slotsOf_cons, vdel, endsV, endsL, resS, Option.isSome_some, reduceIte, Option.bind_some, true_and, and_true, Nat.reduceEqDiff, Nat.one_ne_zero, Nat.zero_ne_one, not_true_eq_false, false_and, and_false, if_true, if_false, Nat.zero_add, Nat.add_zero, e1, vBlocks]
      exact ⟨n, rfl, by omega, fun bs hbs => hR' _ ⟨bs, by simp [vset, drS, conS], by simp [vset], hbs⟩⟩
    clear e1
    rintro τ ⟨bs, e1, e3, hbs⟩
    refine vsq (M := fun τ => ∃ n2 kvs, τ 1 = some (.ab (drw n2)) ∧ n2 ≤ n + 15 ∧ τ 3 = some (.fr (.lst (bs.map PV.str))) ∧ τ 4 = some (.ow (.dic kvs)) ∧ LayP kvs ∧ kvs.map (·.1) = (bs ++ [("unused" : Str)]).map Sum.inr) ?_ fun R' hR' => ?_
    rotate_left
    · simp only [vItems, Vl.pairP, vIndex, isLP, sortP, ssetP, int2P, joinP, vScr, vCallW, permL, List.filterMap_cons, List.filterMap_nil, vVar, vC, vNil, vCons, fz, vOp, vB, vAnd, vOr, vNot, vAndV, vOrV, vNotV, vIf, bP, vChain, vCB, rdL, vTup, vLst, tkL, vDict0, vNo, vSome, slP, vSl, vRev, vNeg, vIsi2, rd, giv, Vl.tk, vset_ap, eqB, neB, ordB, isB, isNonP, inB, Vl.addP, intP, mulP, ixP, lenP, absP, intCP, listP, tupP, dictP, isiP, tyP, keyP, vNext, vDrop, vRet, vRetN, vIfS, vBreak, vCont, vSet, vAsg, fvN, fvNil, fvCons, fvT, vPar, vIt, itP, vRg1, vRg2, vEnum, vZip, vFor, vForD, vdV, vdF, vLc, vLcD, vYes, vDc, vCall, vCallN, vApp, argV, slA, argS, Vl.cellOf, backV, conS, List.map_nil, List.map_cons, List.append_nil, List.cons_append, List.nil_append, List.length_cons, List.length_nil, List.mem_cons, List.not_mem_nil, List.getElem?_cons_zero, List.getElem?_cons_succ, List.getElem?_nil, or_false, List.nodup_nil, List.nodup_cons, not_false_eq_true, vMut, kdL, appP, extP, popP, insP, vUpd, owD, kdD, vStore, vGet1, vGet2, isDP, vPNil, vPCons, vDisp, vMeth, InsR, vProp, InsQ, vFld, putP, vFldS, vMake, vMakeN, slotsOf_nil, slotsOf_cons, vdel, endsV, endsL, resS, Option.isSome_some, reduceIte, Option.bind_some, true_and, and_true, Nat.reduceEqDiff, Nat.one_ne_zero, Nat.zero_ne_one, not_true_eq_false, false_and, and_false, if_true, if_false, Nat.zero_add, Nat.add_zero, e1, e3, vTake]
      refine ⟨_, 3, rfl, rfl, ⟨by decide, by decide⟩, by omega, fun i i1 i2 => ?_⟩
      simp only [vItems, Vl.pairP, vIndex, isLP, sortP, ssetP, int2P, joinP, vScr, vCallW, permL, List.filterMap_cons, List.filterMap_nil, vVar, vC, vNil, vCons, fz, vOp, vB, vAnd, vOr, vNot, vAndV, vOrV, vNotV, vIf, bP, vChain, vCB, rdL, vTup, vLst, tkL, vDict0, vNo, vSome, slP, vSl, vRev, vNeg, vIsi2, rd, giv, Vl.tk, vset_ap, eqB, neB, ordB, isB, isNonP, inB, Vl.addP, intP, mulP, ixP, lenP, absP, intCP, listP, tupP, dictP, isiP, tyP, keyP, vNext, vDrop, vRet, vRetN, vIfS, vBreak, vCont, vSet, vAsg, fvN, fvNil, fvCons, fvT, vPar, vIt, itP, vRg1, vRg2, vEnum, vZip, vFor, vForD, vdV, vdF, vLc, vLcD, vYes, vDc, vCall, vCallN, vApp, argV, slA, argS, Vl.cellOf, backV, conS, List.map_nil, List.map_cons, List.append_nil, List.cons_append, List.nil_append, List.length_cons, List.length_nil, List.mem_cons, List.not_mem_nil, List.getElem?_cons_zero, List.getElem?_cons_succ, List.getElem?_nil, or_false, List.nodup_nil, List.nodup_cons, not_false_eq_true, vMut, kdL, appP, extP, popP, insP, vUpd, owD, kdD, vStore, vGet1, vGet2, isDP, vPNil, vPCons, vDisp, vMeth, InsR, vProp, InsQ, vFld, putP, vFldS, vMake, vMakeN, slotsOf_nil, slotsOf_cons, vdel, endsV, endsL, resS, Option.isSome_some, reduceIte, Option.bind_some, true_and, and_true, Nat.reduceEqDiff, Nat.one_ne_zero, Nat.zero_ne_one, not_true_eq_false, false_and, and_false, if_true, if_false, Nat.zero_add, Nat.add_zero, drS, conS, vLayout]
      have hb5 := hbs.len.2
      refine ⟨_, bs, _, rfl, rfl, rfl, hbs, by omega, by omega, by omega, fun kvs hl hk => hR' _ ⟨_, kvs, by simp [vset]; rfl, by omega, by simp [vset], by simp [vset], hl, hk⟩⟩
    clear e1 e3
    rintro τ ⟨n2, kvs, e1, hn2, e3, e4, hlay, hkeys⟩
    have hkl : kvs.length = bs.length + 1 := by
      have := congrArg List.length hkeys
      simpa using this
    have hb5 := hbs.len
    refine vsq (M := fun τ => ∃ (n3 : Nat) (ss : List Str), τ 1 = some (.ab (drw n3)) ∧ n3 ≤ n + 30 ∧ τ 3 = some (.fr (.lst (bs.map PV.str))) ∧ τ 4 = some (.ow (.dic kvs)) ∧ τ 5 = some (.ow (.lst (ss.map PV.str))) ∧ (∀ b ∈ ss, (.inr b : Key) ∈ kvs.map (·.1)) ∧ 1 ≤ ss.length ∧ ss.length ≤ 12) ?_ fun R' hR' => ?_
    rotate_left
    · simp only [vItems, Vl.pairP, vIndex, isLP, sortP, ssetP, int2P, joinP, vScr, vCallW, permL, List.filterMap_cons, List.filterMap_nil, vVar, vC, vNil, vCons, fz, vOp, vB, vAnd, vOr, vNot, vAndV, vOrV, vNotV, vIf, bP, vChain, vCB, rdL, vTup, vLst, tkL, vDict0, vNo, vSome, slP, vSl, vRev, vNeg, vIsi2, rd, giv, Vl.tk, vset_ap, eqB, neB, ordB, isB, isNonP, inB, Vl.addP, intP, mulP, ixP, lenP, absP, intCP, listP, tupP, dictP, isiP, tyP, keyP, vNext, vDrop, vRet, vRetN, vIfS, vBreak, vCont, vSet, vAsg, fvN, fvNil, fvCons, fvT, vPar, vIt, itP, vRg1, vRg2, vEnum, vZip, vFor, vForD, vdV, vdF, vLc, vLcD, vYes, vDc, vCall, vCallN, vApp, argV, slA, argS, Vl.cellOf, backV, conS, List.map_nil, List.map_cons, List.append_nil, List.cons_append, List.nil_append, List.length_cons, List.length_nil, List.mem_cons, List.not_mem_nil, List.getElem?_cons_zero, List.getElem?_cons_succ, List.getElem?_nil, or_false, List.nodup_nil, List.nodup_cons, not_false_eq_true, vMut, kdL, appP, extP, popP, insP, vUpd, owD, kdD, vStore, vGet1, vGet2, isDP, vPNil, vPCons, vDisp, vMeth, InsR, vProp, InsQ, vFld, putP, vFldS, vMake, vMakeN, slotsOf_nil, slotsOf_cons, vdel, endsV, endsL, resS, Option.isSome_some, reduceIte, Option.bind_some, true_and, and_true, Nat.reduceEqDiff, Nat.one_ne_zero, Nat.zero_ne_one, not_true_eq_false, false_and, and_false, if_true, if_false, Nat.zero_add, Nat.add_zero, e1, e4, vShuf]
      refine ⟨bs ++ [("unused" : Str)], hkeys, by rw [List.length_append]; simp; omega, fun ys yp _ => ?_⟩
      have hyl : ys.length = bs.length + 1 := by rw [yp.length_eq]; simp
      have hyk : ∀ y ∈ ys, (.inr y : Key) ∈ kvs.map (·.1) := fun y hy => by rw [hkeys]; exact List.mem_map.mpr ⟨y, yp.subset hy, rfl⟩
      refine ⟨n2, _, rfl, rfl, ok_strs fun y hy => (lay_get hlay (hyk y hy)).1, by rw [List.length_map]; omega, by rw [List.length_map]; omega, fun zs hz => ?_⟩
      obtain ⟨zs, rfl, hzp⟩ := perm_strs hz
      have hzl : zs.length = bs.length + 1 := by rw [hzp.length_eq, hyl]
      simp only [vItems, Vl.pairP, vIndex, isLP, sortP, ssetP, int2P, joinP, vScr, vCallW, permL, List.filterMap_cons, List.filterMap_nil, vVar, vC, vNil, vCons, fz, vOp, vB, vAnd, vOr, vNot, vAndV, vOrV, vNotV, vIf, bP, vChain, vCB, rdL, vTup, vLst, tkL, vDict0, vNo, vSome, slP, vSl, vRev, vNeg, vIsi2, rd, giv, Vl.tk, vset_ap, eqB, neB, ordB, isB, isNonP, inB, Vl.addP, intP, mulP, ixP, lenP, absP, intCP, listP, tupP, dictP, isiP, tyP, keyP, vNext, vDrop, vRet, vRetN, vIfS, vBreak, vCont, vSet, vAsg, fvN, fvNil, fvCons, fvT, vPar, vIt, itP, vRg1, vRg2, vEnum, vZip, vFor, vForD, vdV, vdF, vLc, vLcD, vYes, vDc, vCall, vCallN, vApp, argV, slA, argS, Vl.cellOf, backV, conS, List.map_nil, List.map_cons, List.append_nil, List.cons_append, List.nil_append, List.length_cons, List.length_nil, List.mem_cons, List.not_mem_nil, List.getElem?_cons_zero, List.getElem?_cons_succ, List.getElem?_nil, or_false, List.nodup_nil, List.nodup_cons, not_false_eq_true, vMut, kdL, appP, extP, popP, insP, vUpd, owD, kdD, vStore, vGet1, vGet2, isDP, vPNil, vPCons, vDisp, vMeth, InsR, vProp, InsQ, vFld, putP, vFldS, vMake, vMakeN, slotsOf_nil, slotsOf_cons, vdel, endsV, endsL, resS, Option.isSome_some, reduceIte, Option.bind_some, true_and, and_true, Nat.reduceEqDiff, Nat.one_ne_zero, Nat.zero_ne_one, not_true_eq_false, false_and, and_false, if_true, if_false, Nat.zero_add, Nat.add_zero, vTake, drS, conS]
      refine ⟨_, 6, rfl, rfl, ⟨by decide, by decide⟩, by rw [List.length_map]; omega, fun i i1 i2 => ?_⟩
      obtain ⟨j, rfl⟩ := Int.eq_ofNat_of_zero_le i1
      rw [show ((1 : Int) + (j : Int)) = ((1 + j : Nat) : Int) by omega, cut_to, ← List.map_take]
      refine hR' _ ⟨_, zs.take (1 + j), by simp [vset]; rfl, by omega, by simpa [vset] using e3, by simpa [vset] using e4, by simp [vset], fun b hb => hyk b (hzp.subset (List.mem_of_mem_take hb)), by rw [List.length_take]; omega, by rw [List.length_take]; omega⟩
    clear e1 e3 e4
    rintro τ ⟨n3, ss, e1, hn3, e3, e4, e5, hss, hs1, hs2⟩
    refine vsq (M := fun τ => ∃ (n4 : Nat) (sn : List Str), τ 1 = some (.ab (drw n4)) ∧ n4 ≤ n + 60 ∧ τ 3 = some (.fr (.lst (bs.map PV.str))) ∧ τ 4 = some (.ow (.dic kvs)) ∧ τ 6 = some (.ow (.lst (sn.map PV.str))) ∧ (∀ b ∈ sn, (.inr b : Key) ∈ kvs.map (·.1)) ∧ sn.length ≤ 14) ?_ fun R' hR' => ?_
    rotate_left
    · simp only [vItems, Vl.pairP, vIndex, isLP, sortP, ssetP, int2P, joinP, vScr, vCallW, permL, List.filterMap_cons, List.filterMap_nil, vVar, vC, vNil, vCons, fz, vOp, vB, vAnd, vOr, vNot, vAndV, vOrV, vNotV, vIf, bP, vChain, vCB, rdL, vTup, vLst, tkL, vDict0, vNo, vSome, slP, vSl, vRev, vNeg, vIsi2, rd, giv, Vl.tk, vset_ap, eqB, neB, ordB, isB, isNonP, inB, Vl.addP, intP, mulP, ixP, lenP, absP, intCP, listP, tupP, dictP, isiP, tyP, keyP, vNext, vDrop, vRet, vRetN, vIfS, vBreak, vCont, vSet, vAsg, fvN, fvNil, fvCons, fvT, vPar, vIt, itP, vRg1, vRg2, vEnum, vZip, vFor, vForD, vdV, vdF, vLc, vLcD, vYes, vDc, vCall, vCallN, vApp, argV, slA, argS, Vl.cellOf, backV, conS, List.map_nil, List.map_cons, List.append_nil, List.cons_append, List.nil_append, List.length_cons, List.length_nil, List.mem_cons, List.not_mem_nil, List.getElem?_cons_zero, List.getElem?_cons_succ, List.getElem?_nil, or_false, List.nodup_nil, List.nodup_cons, not_false_eq_true, vMut, kdL, appP, extP, popP, insP, vUpd, owD, kdD, vStore, vGet1, vGet2, isDP, vPNil, vPCons, vDisp, vMeth, InsR, vProp, InsQ, vFld, putP, vFldS, vMake, vMakeN, slotsOf_nil, slotsOf_cons, vdel, endsV, endsL, resS, Option.isSome_some, reduceIte, Option.bind_some, true_and, and_true, Nat.reduceEqDiff, Nat.one_ne_zero, Nat.zero_ne_one, not_true_eq_false, false_and, and_false, if_true, if_false, Nat.zero_add, Nat.add_zero, e1, vTake]
      refine ⟨_, 15, rfl, rfl, ⟨by decide, by decide⟩, by omega, fun i i1 i2 => ?_⟩
      refine ⟨⟨by omega, by omega⟩, ?_⟩
      obtain ⟨t, rfl⟩ := Int.eq_ofNat_of_zero_le i1
      rw [Int.toNat_natCast]
      refine lcV_ind (I := fun r' acc τ => ∃ (n5 : Nat) (sn : List Str), acc = sn.map PV.str ∧ sn.length + r'.length = t ∧ (∀ b ∈ sn, (.inr b : Key) ∈ kvs.map (·.1)) ∧ τ 1 = some (.ab (drw n5)) ∧ n5 + r'.length ≤ n3 + 1 + t ∧ τ 3 = some (.fr (.lst (bs.map PV.str))) ∧ τ 4 = some (.ow (.dic kvs)) ∧ (τ 5 = some (.ow (.lst (ss.map PV.str))) ∨ τ 5 = some (.fr (.lst (ss.map PV.str))))) ?_ ?_ _ _ _ ?_
      · rintro acc τ ⟨n5, sn, rfl, hsl, hsk, e1, h5, e3, e4, e5⟩
        rw [List.length_nil] at hsl h5
        exact hR' _ ⟨n5, sn, by simpa [vset] using e1, by omega, by simpa [vset] using e3, by simpa [vset] using e4, by simp [vset], hsk, by omega⟩
      · rintro x r' acc τ ⟨n5, sn, ha, hsl, hsk, e1, h5, e3, e4, e5⟩
        rw [List.length_cons] at hsl h5
        refine ⟨_, rfl, fun R'' hR'' => ?_⟩
        have acl : acc.length < sizeLine := by rw [ha, List.length_map, sizeLine_eq]; omega
        have e5' := e5
        rcases e5 with e5 | e5
        all_goals
          simp only [vItems, Vl.pairP, vIndex, isLP, sortP, ssetP, int2P, joinP, vScr, vCallW, permL, List.filterMap_cons, List.filterMap_nil, vVar, vC, vNil, vCons, fz, vOp, vB, vAnd, vOr, vNot, vAndV, vOrV, vNotV, vIf, bP, vChain, vCB, rdL, vTup, vLst, tkL, vDict0, vNo, vSome, slP, vSl, vRev, vNeg, vIsi2, rd, giv, Vl.tk, vset_ap, eqB, neB, ordB, isB, isNonP, inB, Vl.addP, intP, mulP, ixP, lenP, absP, intCP, listP, tupP, dictP, isiP, tyP, keyP, vNext, vDrop, vRet, vRetN, vIfS, vBreak, vCont, vSet, vAsg, fvN, fvNil, fvCons, fvT, vPar, vIt, itP, vRg1, vRg2, vEnum, vZip, vFor, vForD, vdV, vdF, vLc, vLcD, vYes, vDc, vCall, vCallN, vApp, argV, slA, argS, Vl.cellOf, backV, conS, List.map_nil, List.map_cons, List.append_nil, List.cons_append, List.nil_append, List.length_cons, List.length_nil, List.mem_cons, List.not_mem_nil, List.getElem?_cons_zero, List.getElem?_cons_succ, List.getElem?_nil, or_false, List.nodup_nil, List.nodup_cons, not_false_eq_true, vMut, kdL, appP, extP, popP, insP, vUpd, owD, kdD, vStore, vGet1, vGet2, isDP, vPNil, vPCons, vDisp, vMeth, InsR, vProp, InsQ, vFld, putP, vFldS, vMake, vMakeN, slotsOf_nil, slotsOf_cons, vdel, endsV, endsL, resS, Option.isSome_some, reduceIte, Option.bind_some, true_and, and_true, Nat.reduceEqDiff, Nat.one_ne_zero, Nat.zero_ne_one, not_true_eq_false, false_and, and_false, if_true, if_false, Nat.zero_add, Nat.add_zero, e1, e5, vPickS]
          refine ⟨n5, _, ss.map PV.str, rfl, rfl, rfl, by rw [List.length_map]; omega, by rw [List.length_map]; omega, by omega, fun q hq => ?_⟩
          obtain ⟨y, hy, rfl⟩ := List.mem_map.mp hq
          simp only [vItems, Vl.pairP, vIndex, isLP, sortP, ssetP, int2P, joinP, vScr, vCallW, permL, List.filterMap_cons, List.filterMap_nil, vVar, vC, vNil, vCons, fz, vOp, vB, vAnd, vOr, vNot, vAndV, vOrV, vNotV, vIf, bP, vChain, vCB, rdL, vTup, vLst, tkL, vDict0, vNo, vSome, slP, vSl, vRev, vNeg, vIsi2, rd, giv, Vl.tk, vset_ap, eqB, neB, ordB, isB, isNonP, inB, Vl.addP, intP, mulP, ixP, lenP, absP, intCP, listP, tupP, dictP, isiP, tyP, keyP, vNext, vDrop, vRet, vRetN, vIfS, vBreak, vCont, vSet, vAsg, fvN, fvNil, fvCons, fvT, vPar, vIt, itP, vRg1, vRg2, vEnum, vZip, vFor, vForD, vdV, vdF, vLc, vLcD, vYes, vDc, vCall, vCallN, vApp, argV, slA, argS, Vl.cellOf, backV, conS, List.map_nil, List.map_cons, List.append_nil, List.cons_append, List.nil_append, List.length_cons, List.length_nil, List.mem_cons, List.not_mem_nil, List.getElem?_cons_zero, List.getElem?_cons_succ, List.getElem?_nil, or_false, List.nodup_nil, List.nodup_cons, not_false_eq_true, vMut, kdL, appP, extP, popP, insP, vUpd, owD, kdD, vStore, vGet1, vGet2, isDP, vPNil, vPCons, vDisp, vMeth, InsR, vProp, InsQ, vFld, putP, vFldS, vMake, vMakeN, slotsOf_nil, slotsOf_cons, vdel, endsV, endsL, resS, Option.isSome_some, reduceIte, Option.bind_some, true_and, and_true, Nat.reduceEqDiff, Nat.one_ne_zero, Nat.zero_ne_one, not_true_eq_false, false_and, and_false, if_true, if_false, Nat.zero_add, Nat.add_zero, drS, conS]
          refine ⟨acl, hR'' _ _ ⟨n5 + 1, sn ++ [y], by rw [ha]; simp, by simp; omega, fun b hb => ?_, ?_, by omega, by simpa [vset, vdel] using e3, by simpa [vset, vdel] using e4, by simp [vset, vdel, e5]⟩⟩
          · rcases List.mem_append.mp hb with z | z
            · exact hsk b z
            · rw [List.mem_singleton.mp z]; exact hss y hy
          · simp [vset, vdel]
      · exact ⟨n3 + 1, [], rfl, by simp [rgL], (fun b hb => by cases hb), by simp [vset, drS, conS], by simp [rgL], by simpa [vset] using e3, by simpa [vset] using e4, by simp [vset, e5]⟩
    clear e1 e3 e4 e5
    rintro τ ⟨n4, sn, e1, hn4, e3, e4, e5, hsk, hsl⟩
    have hshow := show_sp hlay hsk hsl
    refine vsq (M := fun τ => τ 1 = some (.ab (drw n4)) ∧ τ 3 = some (.fr (.lst (bs.map PV.str))) ∧ τ 4 = some (.fr (.dic kvs)) ∧ τ 6 = some (.fr (.lst (sn.map PV.str))) ∧ τ 8 = some (.fr (.str (shownQ sn kvs)))) ?_ fun R' hR' => ?_
    rotate_left
    · simp only [vItems, Vl.pairP, vIndex, isLP, sortP, ssetP, int2P, joinP, vScr, vCallW, permL, List.filterMap_cons, List.filterMap_nil, vVar, vC, vNil, vCons, fz, vOp, vB, vAnd, vOr, vNot, vAndV, vOrV, vNotV, vIf, bP, vChain, vCB, rdL, vTup, vLst, tkL, vDict0, vNo, vSome, slP, vSl, vRev, vNeg, vIsi2, rd, giv, Vl.tk, vset_ap, eqB, neB, ordB, isB, isNonP, inB, Vl.addP, intP, mulP, ixP, lenP, absP, intCP, listP, tupP, dictP, isiP, tyP, keyP, vNext, vDrop, vRet, vRetN, vIfS, vBreak, vCont, vSet, vAsg, fvN, fvNil, fvCons, fvT, vPar, vIt, itP, vRg1, vRg2, vEnum, vZip, vFor, vForD, vdV, vdF, vLc, vLcD, vYes, vDc, vCall, vCallN, vApp, argV, slA, argS, Vl.cellOf, backV, conS, List.map_nil, List.map_cons, List.append_nil, List.cons_append, List.nil_append, List.length_cons, List.length_nil, List.mem_cons, List.not_mem_nil, List.getElem?_cons_zero, List.getElem?_cons_succ, List.getElem?_nil, or_false, List.nodup_nil, List.nodup_cons, not_false_eq_true, vMut, kdL, appP, extP, popP, insP, vUpd, owD, kdD, vStore, vGet1, vGet2, isDP, vPNil, vPCons, vDisp, vMeth, InsR, vProp, InsQ, vFld, putP, vFldS, vMake, vMakeN, slotsOf_nil, slotsOf_cons, vdel, endsV, endsL, resS, Option.isSome_some, reduceIte, Option.bind_some, true_and, and_true, Nat.reduceEqDiff, Nat.one_ne_zero, Nat.zero_ne_one, not_true_eq_false, false_and, and_false, if_true, if_false, Nat.zero_add, Nat.add_zero, reprQP, e4, e5]
      refine ⟨zr (by decide), hshow, hR' _ ⟨by simpa [vset] using e1, by simpa [vset] using e3, by simp [vset], by simp [vset], by simp [vset, shownQ]⟩⟩
    clear e1 e3 e4 e5
    rintro τ ⟨e1, e3, e4, e5, e6⟩
    refine vsq (M := fun τ => τ 1 = some (.ab (drw n4)) ∧ τ 3 = some (.fr (.lst (bs.map PV.str))) ∧ τ 4 = some (.fr (.dic kvs)) ∧ τ 6 = some (.fr (.lst (sn.map PV.str))) ∧ τ 8 = some (.fr (.str (shownQ sn kvs)))) ?_ fun R' hR' => ?_
    rotate_left
    · simp only [vItems, Vl.pairP, vIndex, isLP, sortP, ssetP, int2P, joinP, vScr, vCallW, permL, List.filterMap_cons, List.filterMap_nil, vVar, vC, vNil, vCons, fz, vOp, vB, vAnd, vOr, vNot, vAndV, vOrV, vNotV, vIf, bP, vChain, vCB, rdL, vTup, vLst, tkL, vDict0, vNo, vSome, slP, vSl, vRev, vNeg, vIsi2, rd, giv, Vl.tk, vset_ap, eqB, neB, ordB, isB, isNonP, inB, Vl.addP, intP, mulP, ixP, lenP, absP, intCP, listP, tupP, dictP, isiP, tyP, keyP, vNext, vDrop, vRet, vRetN, vIfS, vBreak, vCont, vSet, vAsg, fvN, fvNil, fvCons, fvT, vPar, vIt, itP, vRg1, vRg2, vEnum, vZip, vFor, vForD, vdV, vdF, vLc, vLcD, vYes, vDc, vCall, vCallN, vApp, argV, slA, argS, Vl.cellOf, backV, conS, List.map_nil, List.map_cons, List.append_nil, List.cons_append, List.nil_append, List.length_cons, List.length_nil, List.mem_cons, List.not_mem_nil, List.getElem?_cons_zero, List.getElem?_cons_succ, List.getElem?_nil, or_false, List.nodup_nil, List.nodup_cons, not_false_eq_true, vMut, kdL, appP, extP, popP, insP, vUpd, owD, kdD, vStore, vGet1, vGet2, isDP, vPNil, vPCons, vDisp, vMeth, InsR, vProp, InsQ, vFld, putP, vFldS, vMake, vMakeN, slotsOf_nil, slotsOf_cons, vdel, endsV, endsL, resS, Option.isSome_some, reduceIte, Option.bind_some, true_and, and_true, Nat.reduceEqDiff, Nat.one_ne_zero, Nat.zero_ne_one, not_true_eq_false, false_and, and_false, if_true, if_false, Nat.zero_add, Nat.add_zero, e4]
      obtain ⟨ks, hks, hkl'⟩ := lay_keys hlay
      refine ⟨ks, hks, by omega, fun ys yp _ => ?_⟩
      refine forV_ind (I := fun r τ => (∀ p ∈ r, ∃ y, p = .str y ∧ (.inr y : Key) ∈ kvs.map (·.1)) ∧ τ 1 = some (.ab (drw n4)) ∧ τ 3 = some (.fr (.lst (bs.map PV.str))) ∧ τ 4 = some (.fr (.dic kvs)) ∧ τ 6 = some (.fr (.lst (sn.map PV.str))) ∧ τ 8 = some (.fr (.str (shownQ sn kvs)))) ?_ ?_ _ _ ?_
      · rintro τ ⟨_, h⟩
        exact hR' _ h
      · rintro x r τ ⟨hx, e1, e3, e4, e5, e6⟩
        obtain ⟨y, rfl, hy⟩ := hx x List.mem_cons_self
        refine ⟨_, rfl, fun R hR => ?_⟩
        simp only [vItems, Vl.pairP, vIndex, isLP, sortP, ssetP, int2P, joinP, vScr, vCallW, permL, List.filterMap_cons, List.filterMap_nil, vVar, vC, vNil, vCons, fz, vOp, vB, vAnd, vOr, vNot, vAndV, vOrV, vNotV, vIf, bP, vChain, vCB, rdL, vTup, vLst, tkL, vDict0, vNo, vSome, slP, vSl, vRev, vNeg, vIsi2, rd, giv, Vl.tk, vset_ap, eqB, neB, ordB, isB, isNonP, inB, Vl.addP, intP, mulP, ixP, lenP, absP, intCP, listP, tupP, dictP, isiP, tyP, keyP, vNext, vDrop, vRet, vRetN, vIfS, vBreak, vCont, vSet, vAsg, fvN, fvNil, fvCons, fvT, vPar, vIt, itP, vRg1, vRg2, vEnum, vZip, vFor, vForD, vdV, vdF, vLc, vLcD, vYes, vDc, vCall, vCallN, vApp, argV, slA, argS, Vl.cellOf, backV, conS, List.map_nil, List.map_cons, List.append_nil, List.cons_append, List.nil_append, List.length_cons, List.length_nil, List.mem_cons, List.not_mem_nil, List.getElem?_cons_zero, List.getElem?_cons_succ, List.getElem?_nil, or_false, List.nodup_nil, List.nodup_cons, not_false_eq_true, vMut, kdL, appP, extP, popP, insP, vUpd, owD, kdD, vStore, vGet1, vGet2, isDP, vPNil, vPCons, vDisp, vMeth, InsR, vProp, InsQ, vFld, putP, vFldS, vMake, vMakeN, slotsOf_nil, slotsOf_cons, vdel, endsV, endsL, resS, Option.isSome_some, reduceIte, Option.bind_some, true_and, and_true, Nat.reduceEqDiff, Nat.one_ne_zero, Nat.zero_ne_one, not_true_eq_false, false_and, and_false, if_true, if_false, Nat.zero_add, Nat.add_zero, e4, e5, vRight]
        refine ⟨kvs, sn, y, rfl, rfl, rfl, hlay, hy, hsk, by omega, ?_⟩
        simp only [Bool.not_true, Bool.false_eq_true, if_false]
        exact hR _ ⟨fun p hp => hx p (List.mem_cons_of_mem _ hp), by simpa [vset] using e1, by simpa [vset] using e3, by simpa [vset] using e4, by simpa [vset] using e5, by simpa [vset] using e6⟩
      · refine ⟨fun p hp => ?_, e1, e3, e4, e5, e6⟩
        obtain ⟨y, hy, rfl⟩ := List.mem_map.mp hp
        exact ⟨y, rfl, by rw [hks]; exact List.mem_map.mpr ⟨y, yp.subset hy, rfl⟩⟩
    clear e1 e3 e4 e5 e6
    rintro τ ⟨e1, e3, e4, e5, e6⟩
    have hb0 : 0 < (bs.map PV.str).length := by rw [List.length_map]; omega
    simp only [vItems, Vl.pairP, vIndex, isLP, sortP, ssetP, int2P, joinP, vScr, vCallW, permL, List.filterMap_cons, List.filterMap_nil, vVar, vC, vNil, vCons, fz, vOp, vB, vAnd, vOr, vNot, vAndV, vOrV, vNotV, vIf, bP, vChain, vCB, rdL, vTup, vLst, tkL, vDict0, vNo, vSome, slP, vSl, vRev, vNeg, vIsi2, rd, giv, Vl.tk, vset_ap, eqB, neB, ordB, isB, isNonP, inB, Vl.addP, intP, mulP, ixP, lenP, absP, intCP, listP, tupP, dictP, isiP, tyP, keyP, vNext, vDrop, vRet, vRetN, vIfS, vBreak, vCont, vSet, vAsg, fvN, fvNil, fvCons, fvT, vPar, vIt, itP, vRg1, vRg2, vEnum, vZip, vFor, vForD, vdV, vdF, vLc, vLcD, vYes, vDc, vCall, vCallN, vApp, argV, slA, argS, Vl.cellOf, backV, conS, List.map_nil, List.map_cons, List.append_nil, List.cons_append, List.nil_append, List.length_cons, List.length_nil, List.mem_cons, List.not_mem_nil, List.getElem?_cons_zero, List.getElem?_cons_succ, List.getElem?_nil, or_false, List.nodup_nil, List.nodup_cons, not_false_eq_true, vMut, kdL, appP, extP, popP, insP, vUpd, owD, kdD, vStore, vGet1, vGet2, isDP, vPNil, vPCons, vDisp, vMeth, InsR, vProp, InsQ, vFld, putP, vFldS, vMake, vMakeN, slotsOf_nil, slotsOf_cons, vdel, endsV, endsL, resS, Option.isSome_some, reduceIte, Option.bind_some, true_and, and_true, Nat.reduceEqDiff, Nat.one_ne_zero, Nat.zero_ne_one, not_true_eq_false, false_and, and_false, if_true, if_false, Nat.zero_add, Nat.add_zero, reprQP, e1, e3, e4, e5, e6, vElem]
    refine ⟨zr (by decide), hshow, .inl rfl, ?_⟩
    have hat : atI (bs.map PV.str) 0 = some (bs.map PV.str)[0] := atI_nat hb0
    simp only [shownQ, decide_true, Bool.not_true, Bool.false_eq_true, if_false, hat, List.getElem_map]
    refine ⟨zr (by decide), _, kvs, bs[0], [], rfl, rfl, rfl, rfl, hlay, ?_, (fun b hb => by cases hb), by simp, ?_⟩
    · rw [hkeys]
      exact List.mem_map.mpr ⟨_, List.mem_append_left _ (List.getElem_mem _), rfl⟩
    have hel : elV (elemOf kvs bs[0] []) = PV.tup [PV.bl false, PV.tup []] := rfl
    refine ⟨by rw [hel]; exact cmpE (n := 0) (m := 0) (a := nothing) (b := nothing) nothing_ok nothing_ok, ?_⟩
    simp only [hel, decide_true, Bool.not_true, Bool.false_eq_true, if_false]
    exact hR _ ⟨n4, e1, by omega⟩
end K17
namespace K17
open PySem PySem.Spec PyProof.Rows L2 Dv Vl
theorem scr_start {K : Fr0} {a : Addr} {ns : List Int} {H : Hp} (hl : ns.length ≤ 63) (hO : Only H) (hS : SqL K H a (ns.map V.int)) : lowScr K spLawT [.ref a] H (fun v _ => v = .bl true) fun _ _ _ => False := by
  refine ⟨a, ns, fun _ => none, fun t _ => t = .bl true, fun _ _ _ => False, rfl, SqG.of hO hS, hl, ⟨fun a o e => (by cases e), fun d n b e => (by cases e), fun d d' n n' e => (by cases e), fun e he => by cases he⟩, ⟨a, rfl, (fun d n z => by cases z), rfl⟩, fun t G' v H' e r _ _ => ?_, fun _ _ _ _ _ _ z => z.elim⟩
  subst e
  cases r
  rfl
theorem cx_never {P : Program} {w : World} {H : Hp} {s : Shared} {e : Value} {s' : Shared} (h : L2.CX P w [] H s (fun _ _ _ => False) e s') : False := by
  obtain ⟨_, _, _, _, _, _, _, _, _, _, _, _, z⟩ := h
  exact z
theorem all_mk {P : Program} {w : World} {K : Fr0} {h : Heap} {mg : Str → Option Value} {fa : Addr} (X : K.In h) (G : h.Ns mainGlobals mg) (hfa : mg "law" = some (.ref fa))
    {tLETTERS : Tok}
    {tMOST_KEPT : Tok}
    {tMOST_SETS : Tok}
    {TNOTHING : Addr} {ddNOTHING : Option Addr} {nNOTHING : Nat} {slNOTHING : Array (Option Value)}  {TNOTHING_1 : Addr} {ddNOTHING_1 : Option Addr} {nNOTHING_1 : Nat} {slNOTHING_1 : Array (Option Value)}
    {TFRESH : Addr} {ddFRESH : Option Addr} {nFRESH : Nat} {slFRESH : Array (Option Value)}  {TFRESH_1 : Addr} {ddFRESH_1 : Option Addr} {nFRESH_1 : Nat} {slFRESH_1 : Array (Option Value)}
    {fis_integer : Addr} {ocis_integer kVis_integer dcis_integer pmis_integer cdis_integer ctis_integer : Value} {odis_integer anis_integer : Option Addr} {slis_integer : Array (Option Value)}
    {fis_name : Addr} {ocis_name kVis_name dcis_name pmis_name cdis_name ctis_name : Value} {odis_name anis_name : Option Addr} {slis_name : Array (Option Value)}
    {fis_set : Addr} {ocis_set kVis_set dcis_set pmis_set cdis_set ctis_set : Value} {odis_set anis_set : Option Addr} {slis_set : Array (Option Value)}
    {fis_layout : Addr} {ocis_layout kVis_layout dcis_layout pmis_layout cdis_layout ctis_layout : Value} {odis_layout anis_layout : Option Addr} {slis_layout : Array (Option Value)}
    {fneed_layout : Addr} {ocneed_layout kVneed_layout dcneed_layout pmneed_layout cdneed_layout ctneed_layout : Value} {odneed_layout anneed_layout : Option Addr} {slneed_layout : Array (Option Value)}
    {fneed_block : Addr} {ocneed_block kVneed_block dcneed_block pmneed_block cdneed_block ctneed_block : Value} {odneed_block anneed_block : Option Addr} {slneed_block : Array (Option Value)}
    {fdistances_of : Addr} {ocdistances_of kVdistances_of dcdistances_of pmdistances_of cddistances_of ctdistances_of : Value} {oddistances_of andistances_of : Option Addr} {sldistances_of : Array (Option Value)}
    {fis_element : Addr} {ocis_element kVis_element dcis_element pmis_element cdis_element ctis_element : Value} {odis_element anis_element : Option Addr} {slis_element : Array (Option Value)}
    {fneed_element : Addr} {ocneed_element kVneed_element dcneed_element pmneed_element cdneed_element ctneed_element : Value} {odneed_element anneed_element : Option Addr} {slneed_element : Array (Option Value)}
    {ftimes : Addr} {octimes kVtimes dctimes pmtimes cdtimes cttimes : Value} {odtimes antimes : Option Addr} {sltimes : Array (Option Value)}
    {fdistance_at : Addr} {ocdistance_at kVdistance_at dcdistance_at pmdistance_at cddistance_at ctdistance_at : Value} {oddistance_at andistance_at : Option Addr} {sldistance_at : Array (Option Value)}
    {fdistance_of : Addr} {ocdistance_of kVdistance_of dcdistance_of pmdistance_of cddistance_of ctdistance_of : Value} {oddistance_of andistance_of : Option Addr} {sldistance_of : Array (Option Value)}
    {ftouch_element : Addr} {octouch_element kVtouch_element dctouch_element pmtouch_element cdtouch_element cttouch_element : Value} {odtouch_element antouch_element : Option Addr} {sltouch_element : Array (Option Value)}
    {felement_of : Addr} {ocelement_of kVelement_of dcelement_of pmelement_of cdelement_of ctelement_of : Value} {odelement_of anelement_of : Option Addr} {slelement_of : Array (Option Value)}
    {f_law_begin : Addr} {oc_law_begin kV_law_begin dc_law_begin pm_law_begin cd_law_begin ct_law_begin : Value} {od_law_begin an_law_begin : Option Addr} {sl_law_begin : Array (Option Value)}
    {f_law_take : Addr} {oc_law_take kV_law_take dc_law_take pm_law_take cd_law_take ct_law_take : Value} {od_law_take an_law_take : Option Addr} {sl_law_take : Array (Option Value)}
    {f_law_pick : Addr} {oc_law_pick kV_law_pick dc_law_pick pm_law_pick cd_law_pick ct_law_pick : Value} {od_law_pick an_law_pick : Option Addr} {sl_law_pick : Array (Option Value)}
    {f_law_shuffled : Addr} {oc_law_shuffled kV_law_shuffled dc_law_shuffled pm_law_shuffled cd_law_shuffled ct_law_shuffled : Value} {od_law_shuffled an_law_shuffled : Option Addr} {sl_law_shuffled : Array (Option Value)}
    {f_law_blocks : Addr} {oc_law_blocks kV_law_blocks dc_law_blocks pm_law_blocks cd_law_blocks ct_law_blocks : Value} {od_law_blocks an_law_blocks : Option Addr} {sl_law_blocks : Array (Option Value)}
    {f_law_layout : Addr} {oc_law_layout kV_law_layout dc_law_layout pm_law_layout cd_law_layout ct_law_layout : Value} {od_law_layout an_law_layout : Option Addr} {sl_law_layout : Array (Option Value)}
    {f_law_distance : Addr} {oc_law_distance kV_law_distance dc_law_distance pm_law_distance cd_law_distance ct_law_distance : Value} {od_law_distance an_law_distance : Option Addr} {sl_law_distance : Array (Option Value)}
    {f_law_due : Addr} {oc_law_due kV_law_due dc_law_due pm_law_due cd_law_due ct_law_due : Value} {od_law_due an_law_due : Option Addr} {sl_law_due : Array (Option Value)}
    {f_law_right : Addr} {oc_law_right kV_law_right dc_law_right pm_law_right cd_law_right ct_law_right : Value} {od_law_right an_law_right : Option Addr} {sl_law_right : Array (Option Value)}
    {flaw : Addr} {oclaw kVlaw dclaw pmlaw cdlaw ctlaw : Value} {odlaw anlaw : Option Addr} {sllaw : Array (Option Value)}
    (z_len : PySem.W.nsIn K mainGlobals "len" = some none)
    (z_abs : PySem.W.nsIn K mainGlobals "abs" = some none)
    (z_int : PySem.W.nsIn K mainGlobals "int" = some none)
    (z_list : PySem.W.nsIn K mainGlobals "list" = some none)
    (z_tuple : PySem.W.nsIn K mainGlobals "tuple" = some none)
    (z_sorted : PySem.W.nsIn K mainGlobals "sorted" = some none)
    (z_dict : PySem.W.nsIn K mainGlobals "dict" = some none)
    (z_isinstance : PySem.W.nsIn K mainGlobals "isinstance" = some none)
    (z_range : PySem.W.nsIn K mainGlobals "range" = some none)
    (z_zip : PySem.W.nsIn K mainGlobals "zip" = some none)
    (z_str : PySem.W.nsIn K mainGlobals "str" = some none)
    (z_bool : PySem.W.nsIn K mainGlobals "bool" = some none)
    (z_set : PySem.W.nsIn K mainGlobals "set" = some none)
    (z_repr : PySem.W.nsIn K mainGlobals "repr" = some none)
    (z_max : PySem.W.nsIn K mainGlobals "max" = some none)
    (z_min : PySem.W.nsIn K mainGlobals "min" = some none)
    (gLETTERS : PySem.W.nsIn K mainGlobals "LETTERS" = some (some (.str "abcdefghijklmnopqrstuvwxyz" tLETTERS)))
    (gMOST_KEPT : PySem.W.nsIn K mainGlobals "MOST_KEPT" = some (some (.int 12 tMOST_KEPT)))
    (gMOST_SETS : PySem.W.nsIn K mainGlobals "MOST_SETS" = some (some (.int 8 tMOST_SETS)))
    (gNOTHING : PySem.W.nsIn K mainGlobals "NOTHING" = some (some (.ref TNOTHING)))
    (lgNOTHING : K.lookup TNOTHING = some ⟨.type "tuple", ddNOTHING, .seq #[.bool false, .ref TNOTHING_1] nNOTHING, slNOTHING⟩)
    (lgNOTHING_1 : K.lookup TNOTHING_1 = some ⟨.type "tuple", ddNOTHING_1, .seq #[] nNOTHING_1, slNOTHING_1⟩)
    (gFRESH : PySem.W.nsIn K mainGlobals "FRESH" = some (some (.ref TFRESH)))
    (lgFRESH : K.lookup TFRESH = some ⟨.type "tuple", ddFRESH, .seq #[.bool true, .ref TFRESH_1] nFRESH, slFRESH⟩)
    (lgFRESH_1 : K.lookup TFRESH_1 = some ⟨.type "tuple", ddFRESH_1, .seq #[] nFRESH_1, slFRESH_1⟩)
    (ais_integer : PySem.W.nsIn K mainGlobals "is_integer" = some (some (.ref fis_integer)))
    (lis_integer : K.lookup fis_integer = some ⟨ocis_integer, odis_integer, .func (PySem.W.fnOf "is_integer" "is_integer" (defArgs (top 7)) (defBody (top 7)) (defScope (top 7)) .none kVis_integer dcis_integer pmis_integer anis_integer cdis_integer ctis_integer), slis_integer⟩)
    (cis_integer : PySem.W.codeIn K cdis_integer "is_integer" = true)
    (kis_integer : PySem.W.keepIn K (.ref fis_integer) = true)
    (ais_name : PySem.W.nsIn K mainGlobals "is_name" = some (some (.ref fis_name)))
    (lis_name : K.lookup fis_name = some ⟨ocis_name, odis_name, .func (PySem.W.fnOf "is_name" "is_name" (defArgs (top 8)) (defBody (top 8)) (defScope (top 8)) .none kVis_name dcis_name pmis_name anis_name cdis_name ctis_name), slis_name⟩)
    (cis_name : PySem.W.codeIn K cdis_name "is_name" = true)
    (kis_name : PySem.W.keepIn K (.ref fis_name) = true)
    (ais_set : PySem.W.nsIn K mainGlobals "is_set" = some (some (.ref fis_set)))
    (lis_set : K.lookup fis_set = some ⟨ocis_set, odis_set, .func (PySem.W.fnOf "is_set" "is_set" (defArgs (top 12)) (defBody (top 12)) (defScope (top 12)) .none kVis_set dcis_set pmis_set anis_set cdis_set ctis_set), slis_set⟩)
    (cis_set : PySem.W.codeIn K cdis_set "is_set" = true)
    (kis_set : PySem.W.keepIn K (.ref fis_set) = true)
    (ais_layout : PySem.W.nsIn K mainGlobals "is_layout" = some (some (.ref fis_layout)))
    (lis_layout : K.lookup fis_layout = some ⟨ocis_layout, odis_layout, .func (PySem.W.fnOf "is_layout" "is_layout" (defArgs (top 13)) (defBody (top 13)) (defScope (top 13)) .none kVis_layout dcis_layout pmis_layout anis_layout cdis_layout ctis_layout), slis_layout⟩)
    (cis_layout : PySem.W.codeIn K cdis_layout "is_layout" = true)
    (kis_layout : PySem.W.keepIn K (.ref fis_layout) = true)
    (aneed_layout : PySem.W.nsIn K mainGlobals "need_layout" = some (some (.ref fneed_layout)))
    (lneed_layout : K.lookup fneed_layout = some ⟨ocneed_layout, odneed_layout, .func (PySem.W.fnOf "need_layout" "need_layout" (defArgs (top 14)) (defBody (top 14)) (defScope (top 14)) .none kVneed_layout dcneed_layout pmneed_layout anneed_layout cdneed_layout ctneed_layout), slneed_layout⟩)
    (cneed_layout : PySem.W.codeIn K cdneed_layout "need_layout" = true)
    (kneed_layout : PySem.W.keepIn K (.ref fneed_layout) = true)
    (aneed_block : PySem.W.nsIn K mainGlobals "need_block" = some (some (.ref fneed_block)))
    (lneed_block : K.lookup fneed_block = some ⟨ocneed_block, odneed_block, .func (PySem.W.fnOf "need_block" "need_block" (defArgs (top 15)) (defBody (top 15)) (defScope (top 15)) .none kVneed_block dcneed_block pmneed_block anneed_block cdneed_block ctneed_block), slneed_block⟩)
    (cneed_block : PySem.W.codeIn K cdneed_block "need_block" = true)
    (kneed_block : PySem.W.keepIn K (.ref fneed_block) = true)
    (adistances_of : PySem.W.nsIn K mainGlobals "distances_of" = some (some (.ref fdistances_of)))
    (ldistances_of : K.lookup fdistances_of = some ⟨ocdistances_of, oddistances_of, .func (PySem.W.fnOf "distances_of" "distances_of" (defArgs (top 16)) (defBody (top 16)) (defScope (top 16)) .none kVdistances_of dcdistances_of pmdistances_of andistances_of cddistances_of ctdistances_of), sldistances_of⟩)
    (cdistances_of : PySem.W.codeIn K cddistances_of "distances_of" = true)
    (kdistances_of : PySem.W.keepIn K (.ref fdistances_of) = true)
    (ais_element : PySem.W.nsIn K mainGlobals "is_element" = some (some (.ref fis_element)))
    (lis_element : K.lookup fis_element = some ⟨ocis_element, odis_element, .func (PySem.W.fnOf "is_element" "is_element" (defArgs (top 20)) (defBody (top 20)) (defScope (top 20)) .none kVis_element dcis_element pmis_element anis_element cdis_element ctis_element), slis_element⟩)
    (cis_element : PySem.W.codeIn K cdis_element "is_element" = true)
    (kis_element : PySem.W.keepIn K (.ref fis_element) = true)
    (aneed_element : PySem.W.nsIn K mainGlobals "need_element" = some (some (.ref fneed_element)))
    (lneed_element : K.lookup fneed_element = some ⟨ocneed_element, odneed_element, .func (PySem.W.fnOf "need_element" "need_element" (defArgs (top 21)) (defBody (top 21)) (defScope (top 21)) .none kVneed_element dcneed_element pmneed_element anneed_element cdneed_element ctneed_element), slneed_element⟩)
    (cneed_element : PySem.W.codeIn K cdneed_element "need_element" = true)
    (kneed_element : PySem.W.keepIn K (.ref fneed_element) = true)
    (atimes : PySem.W.nsIn K mainGlobals "times" = some (some (.ref ftimes)))
    (ltimes : K.lookup ftimes = some ⟨octimes, odtimes, .func (PySem.W.fnOf "times" "times" (defArgs (top 22)) (defBody (top 22)) (defScope (top 22)) .none kVtimes dctimes pmtimes antimes cdtimes cttimes), sltimes⟩)
    (ctimes : PySem.W.codeIn K cdtimes "times" = true)
    (ktimes : PySem.W.keepIn K (.ref ftimes) = true)
    (adistance_at : PySem.W.nsIn K mainGlobals "distance_at" = some (some (.ref fdistance_at)))
    (ldistance_at : K.lookup fdistance_at = some ⟨ocdistance_at, oddistance_at, .func (PySem.W.fnOf "distance_at" "distance_at" (defArgs (top 23)) (defBody (top 23)) (defScope (top 23)) .none kVdistance_at dcdistance_at pmdistance_at andistance_at cddistance_at ctdistance_at), sldistance_at⟩)
    (cdistance_at : PySem.W.codeIn K cddistance_at "distance_at" = true)
    (kdistance_at : PySem.W.keepIn K (.ref fdistance_at) = true)
    (adistance_of : PySem.W.nsIn K mainGlobals "distance_of" = some (some (.ref fdistance_of)))
    (ldistance_of : K.lookup fdistance_of = some ⟨ocdistance_of, oddistance_of, .func (PySem.W.fnOf "distance_of" "distance_of" (defArgs (top 24)) (defBody (top 24)) (defScope (top 24)) .none kVdistance_of dcdistance_of pmdistance_of andistance_of cddistance_of ctdistance_of), sldistance_of⟩)
    (cdistance_of : PySem.W.codeIn K cddistance_of "distance_of" = true)
    (kdistance_of : PySem.W.keepIn K (.ref fdistance_of) = true)
    (atouch_element : PySem.W.nsIn K mainGlobals "touch_element" = some (some (.ref ftouch_element)))
    (ltouch_element : K.lookup ftouch_element = some ⟨octouch_element, odtouch_element, .func (PySem.W.fnOf "touch_element" "touch_element" (defArgs (top 25)) (defBody (top 25)) (defScope (top 25)) .none kVtouch_element dctouch_element pmtouch_element antouch_element cdtouch_element cttouch_element), sltouch_element⟩)
    (ctouch_element : PySem.W.codeIn K cdtouch_element "touch_element" = true)
    (ktouch_element : PySem.W.keepIn K (.ref ftouch_element) = true)
    (aelement_of : PySem.W.nsIn K mainGlobals "element_of" = some (some (.ref felement_of)))
    (lelement_of : K.lookup felement_of = some ⟨ocelement_of, odelement_of, .func (PySem.W.fnOf "element_of" "element_of" (defArgs (top 26)) (defBody (top 26)) (defScope (top 26)) .none kVelement_of dcelement_of pmelement_of anelement_of cdelement_of ctelement_of), slelement_of⟩)
    (celement_of : PySem.W.codeIn K cdelement_of "element_of" = true)
    (kelement_of : PySem.W.keepIn K (.ref felement_of) = true)
    (a_law_begin : PySem.W.nsIn K mainGlobals "_law_begin" = some (some (.ref f_law_begin)))
    (l_law_begin : K.lookup f_law_begin = some ⟨oc_law_begin, od_law_begin, .func (PySem.W.fnOf "_law_begin" "_law_begin" (defArgs (top 28)) (defBody (top 28)) (defScope (top 28)) .none kV_law_begin dc_law_begin pm_law_begin an_law_begin cd_law_begin ct_law_begin), sl_law_begin⟩)
    (c_law_begin : PySem.W.codeIn K cd_law_begin "_law_begin" = true)
    (k_law_begin : PySem.W.keepIn K (.ref f_law_begin) = true)
    (a_law_take : PySem.W.nsIn K mainGlobals "_law_take" = some (some (.ref f_law_take)))
    (l_law_take : K.lookup f_law_take = some ⟨oc_law_take, od_law_take, .func (PySem.W.fnOf "_law_take" "_law_take" (defArgs (top 29)) (defBody (top 29)) (defScope (top 29)) .none kV_law_take dc_law_take pm_law_take an_law_take cd_law_take ct_law_take), sl_law_take⟩)
    (c_law_take : PySem.W.codeIn K cd_law_take "_law_take" = true)
    (k_law_take : PySem.W.keepIn K (.ref f_law_take) = true)
    (a_law_pick : PySem.W.nsIn K mainGlobals "_law_pick" = some (some (.ref f_law_pick)))
    (l_law_pick : K.lookup f_law_pick = some ⟨oc_law_pick, od_law_pick, .func (PySem.W.fnOf "_law_pick" "_law_pick" (defArgs (top 30)) (defBody (top 30)) (defScope (top 30)) .none kV_law_pick dc_law_pick pm_law_pick an_law_pick cd_law_pick ct_law_pick), sl_law_pick⟩)
    (c_law_pick : PySem.W.codeIn K cd_law_pick "_law_pick" = true)
    (k_law_pick : PySem.W.keepIn K (.ref f_law_pick) = true)
    (a_law_shuffled : PySem.W.nsIn K mainGlobals "_law_shuffled" = some (some (.ref f_law_shuffled)))
    (l_law_shuffled : K.lookup f_law_shuffled = some ⟨oc_law_shuffled, od_law_shuffled, .func (PySem.W.fnOf "_law_shuffled" "_law_shuffled" (defArgs (top 31)) (defBody (top 31)) (defScope (top 31)) .none kV_law_shuffled dc_law_shuffled pm_law_shuffled an_law_shuffled cd_law_shuffled ct_law_shuffled), sl_law_shuffled⟩)
    (c_law_shuffled : PySem.W.codeIn K cd_law_shuffled "_law_shuffled" = true)
    (k_law_shuffled : PySem.W.keepIn K (.ref f_law_shuffled) = true)
    (a_law_blocks : PySem.W.nsIn K mainGlobals "_law_blocks" = some (some (.ref f_law_blocks)))
    (l_law_blocks : K.lookup f_law_blocks = some ⟨oc_law_blocks, od_law_blocks, .func (PySem.W.fnOf "_law_blocks" "_law_blocks" (defArgs (top 32)) (defBody (top 32)) (defScope (top 32)) .none kV_law_blocks dc_law_blocks pm_law_blocks an_law_blocks cd_law_blocks ct_law_blocks), sl_law_blocks⟩)
    (c_law_blocks : PySem.W.codeIn K cd_law_blocks "_law_blocks" = true)
    (k_law_blocks : PySem.W.keepIn K (.ref f_law_blocks) = true)
    (a_law_layout : PySem.W.nsIn K mainGlobals "_law_layout" = some (some (.ref f_law_layout)))
    (l_law_layout : K.lookup f_law_layout = some ⟨oc_law_layout, od_law_layout, .func (PySem.W.fnOf "_law_layout" "_law_layout" (defArgs (top 33)) (defBody (top 33)) (defScope (top 33)) .none kV_law_layout dc_law_layout pm_law_layout an_law_layout cd_law_layout ct_law_layout), sl_law_layout⟩)
    (c_law_layout : PySem.W.codeIn K cd_law_layout "_law_layout" = true)
    (k_law_layout : PySem.W.keepIn K (.ref f_law_layout) = true)
    (a_law_distance : PySem.W.nsIn K mainGlobals "_law_distance" = some (some (.ref f_law_distance)))
    (l_law_distance : K.lookup f_law_distance = some ⟨oc_law_distance, od_law_distance, .func (PySem.W.fnOf "_law_distance" "_law_distance" (defArgs (top 34)) (defBody (top 34)) (defScope (top 34)) .none kV_law_distance dc_law_distance pm_law_distance an_law_distance cd_law_distance ct_law_distance), sl_law_distance⟩)
    (c_law_distance : PySem.W.codeIn K cd_law_distance "_law_distance" = true)
    (k_law_distance : PySem.W.keepIn K (.ref f_law_distance) = true)
    (a_law_due : PySem.W.nsIn K mainGlobals "_law_due" = some (some (.ref f_law_due)))
    (l_law_due : K.lookup f_law_due = some ⟨oc_law_due, od_law_due, .func (PySem.W.fnOf "_law_due" "_law_due" (defArgs (top 35)) (defBody (top 35)) (defScope (top 35)) .none kV_law_due dc_law_due pm_law_due an_law_due cd_law_due ct_law_due), sl_law_due⟩)
    (c_law_due : PySem.W.codeIn K cd_law_due "_law_due" = true)
    (k_law_due : PySem.W.keepIn K (.ref f_law_due) = true)
    (a_law_right : PySem.W.nsIn K mainGlobals "_law_right" = some (some (.ref f_law_right)))
    (l_law_right : K.lookup f_law_right = some ⟨oc_law_right, od_law_right, .func (PySem.W.fnOf "_law_right" "_law_right" (defArgs (top 36)) (defBody (top 36)) (defScope (top 36)) .none kV_law_right dc_law_right pm_law_right an_law_right cd_law_right ct_law_right), sl_law_right⟩)
    (c_law_right : PySem.W.codeIn K cd_law_right "_law_right" = true)
    (k_law_right : PySem.W.keepIn K (.ref f_law_right) = true)
    (alaw : PySem.W.nsIn K mainGlobals "law" = some (some (.ref flaw)))
    (llaw : K.lookup flaw = some ⟨oclaw, odlaw, .func (PySem.W.fnOf "law" "law" (defArgs (top 37)) (defBody (top 37)) (defScope (top 37)) .none kVlaw dclaw pmlaw anlaw cdlaw ctlaw), sllaw⟩)
    (claw : PySem.W.codeIn K cdlaw "law" = true)
    (klaw : PySem.W.keepIn K (.ref flaw) = true) :
    ∃ fd : FuncData, (∀ (s : Shared) (u : Value), BindsTo s fd ⟨[u], []⟩ [("_law_script", u)]) ∧ ∀ base : Heap, K.In base → base.Ns mainGlobals mg → FnG P w K mg base (L2.CX P w) 10 fa fd ["_law_script"] (lowScr K spLawT) := by
  have V : Env K mg := {
    b_len := PySem.W.mg_none_of X G z_len,
    b_abs := PySem.W.mg_none_of X G z_abs,
    b_int := PySem.W.mg_none_of X G z_int,
    b_list := PySem.W.mg_none_of X G z_list,
    b_tuple := PySem.W.mg_none_of X G z_tuple,
    b_sorted := PySem.W.mg_none_of X G z_sorted,
    b_dict := PySem.W.mg_none_of X G z_dict,
    b_isinstance := PySem.W.mg_none_of X G z_isinstance,
    b_range := PySem.W.mg_none_of X G z_range,
    b_zip := PySem.W.mg_none_of X G z_zip,
    b_str := PySem.W.mg_none_of X G z_str,
    b_bool := PySem.W.mg_none_of X G z_bool,
    b_set := PySem.W.mg_none_of X G z_set,
    b_repr := PySem.W.mg_none_of X G z_repr,
    b_max := PySem.W.mg_none_of X G z_max,
    b_min := PySem.W.mg_none_of X G z_min,
    g_LETTERS := ⟨_, PySem.W.mg_of X G gLETTERS⟩,
    g_MOST_KEPT := ⟨_, PySem.W.mg_of X G gMOST_KEPT⟩,
    g_MOST_SETS := ⟨_, PySem.W.mg_of X G gMOST_SETS⟩,
    g_NOTHING := ⟨.ref TNOTHING, .ref TNOTHING, PySem.W.mg_of X G gNOTHING, rfl, fun H => .tup (xs := [V.bl false, V.ref TNOTHING_1]) (.inr ⟨_, _, _, lgNOTHING, rfl, rfl, (by rw [sizeLine_eq]; exact Nat.le_trans (show 2 ≤ 1000 by decide) (by decide)), (.cons rfl (.cons rfl .nil))⟩) (.cons (.bl _) (.cons (tt_rel lgNOTHING_1 _) .nil))⟩,
    g_FRESH := ⟨.ref TFRESH, .ref TFRESH, PySem.W.mg_of X G gFRESH, rfl, fun H => .tup (xs := [V.bl true, V.ref TFRESH_1]) (.inr ⟨_, _, _, lgFRESH, rfl, rfl, (by rw [sizeLine_eq]; exact Nat.le_trans (show 2 ≤ 1000 by decide) (by decide)), (.cons rfl (.cons rfl .nil))⟩) (.cons (.bl _) (.cons (tt_rel lgFRESH_1 _) .nil))⟩,
    d_is_integer := ⟨fis_integer, _, fun_mk (st := (top 7)) lis_integer cis_integer kis_integer, PySem.W.mg_of X G ais_integer, (fun_mk (st := (top 7)) lis_integer cis_integer kis_integer).binds (ps := ["value"]) fun _ _ _ _ _ _ us hl => match us, hl with | [_], _ => rfl⟩,
    d_is_name := ⟨fis_name, _, fun_mk (st := (top 8)) lis_name cis_name kis_name, PySem.W.mg_of X G ais_name, (fun_mk (st := (top 8)) lis_name cis_name kis_name).binds (ps := ["value"]) fun _ _ _ _ _ _ us hl => match us, hl with | [_], _ => rfl⟩,
    d_is_set := ⟨fis_set, _, fun_mk (st := (top 12)) lis_set cis_set kis_set, PySem.W.mg_of X G ais_set, (fun_mk (st := (top 12)) lis_set cis_set kis_set).binds (ps := ["value"]) fun _ _ _ _ _ _ us hl => match us, hl with | [_], _ => rfl⟩,
    d_is_layout := ⟨fis_layout, _, fun_mk (st := (top 13)) lis_layout cis_layout kis_layout, PySem.W.mg_of X G ais_layout, (fun_mk (st := (top 13)) lis_layout cis_layout kis_layout).binds (ps := ["value"]) fun _ _ _ _ _ _ us hl => match us, hl with | [_], _ => rfl⟩,
    d_need_layout := ⟨fneed_layout, _, fun_mk (st := (top 14)) lneed_layout cneed_layout kneed_layout, PySem.W.mg_of X G aneed_layout, (fun_mk (st := (top 14)) lneed_layout cneed_layout kneed_layout).binds (ps := ["value"]) fun _ _ _ _ _ _ us hl => match us, hl with | [_], _ => rfl⟩,
    d_need_block := ⟨fneed_block, _, fun_mk (st := (top 15)) lneed_block cneed_block kneed_block, PySem.W.mg_of X G aneed_block, (fun_mk (st := (top 15)) lneed_block cneed_block kneed_block).binds (ps := ["layout", "value"]) fun _ _ _ _ _ _ us hl => match us, hl with | [_, _], _ => rfl⟩,
    d_distances_of := ⟨fdistances_of, _, fun_mk (st := (top 16)) ldistances_of cdistances_of kdistances_of, PySem.W.mg_of X G adistances_of, (fun_mk (st := (top 16)) ldistances_of cdistances_of kdistances_of).binds (ps := ["blocks", "layout"]) fun _ _ _ _ _ _ us hl => match us, hl with | [_, _], _ => rfl⟩,
    d_is_element := ⟨fis_element, _, fun_mk (st := (top 20)) lis_element cis_element kis_element, PySem.W.mg_of X G ais_element, (fun_mk (st := (top 20)) lis_element cis_element kis_element).binds (ps := ["value"]) fun _ _ _ _ _ _ us hl => match us, hl with | [_], _ => rfl⟩,
    d_need_element := ⟨fneed_element, _, fun_mk (st := (top 21)) lneed_element cneed_element kneed_element, PySem.W.mg_of X G aneed_element, (fun_mk (st := (top 21)) lneed_element cneed_element kneed_element).binds (ps := ["value"]) fun _ _ _ _ _ _ us hl => match us, hl with | [_], _ => rfl⟩,
    d_times := ⟨ftimes, _, fun_mk (st := (top 22)) ltimes ctimes ktimes, PySem.W.mg_of X G atimes, (fun_mk (st := (top 22)) ltimes ctimes ktimes).binds (ps := ["one", "other"]) fun _ _ _ _ _ _ us hl => match us, hl with | [_, _], _ => rfl⟩,
    d_distance_at := ⟨fdistance_at, _, fun_mk (st := (top 23)) ldistance_at cdistance_at kdistance_at, PySem.W.mg_of X G adistance_at, (fun_mk (st := (top 23)) ldistance_at cdistance_at kdistance_at).binds (ps := ["one"]) fun _ _ _ _ _ _ us hl => match us, hl with | [_], _ => rfl⟩,
    d_distance_of := ⟨fdistance_of, _, fun_mk (st := (top 24)) ldistance_of cdistance_of kdistance_of, PySem.W.mg_of X G adistance_of, (fun_mk (st := (top 24)) ldistance_of cdistance_of kdistance_of).binds (ps := ["element"]) fun _ _ _ _ _ _ us hl => match us, hl with | [_], _ => rfl⟩,
    d_touch_element := ⟨ftouch_element, _, fun_mk (st := (top 25)) ltouch_element ctouch_element ktouch_element, PySem.W.mg_of X G atouch_element, (fun_mk (st := (top 25)) ltouch_element ctouch_element ktouch_element).binds (ps := ["layout", "focus", "block"]) fun _ _ _ _ _ _ us hl => match us, hl with | [_, _, _], _ => rfl⟩,
    d_element_of := ⟨felement_of, _, fun_mk (st := (top 26)) lelement_of celement_of kelement_of, PySem.W.mg_of X G aelement_of, (fun_mk (st := (top 26)) lelement_of celement_of kelement_of).binds (ps := ["blocks", "layout", "focus"]) fun _ _ _ _ _ _ us hl => match us, hl with | [_, _, _], _ => rfl⟩,
    d__law_begin := ⟨f_law_begin, _, fun_mk (st := (top 28)) l_law_begin c_law_begin k_law_begin, PySem.W.mg_of X G a_law_begin, (fun_mk (st := (top 28)) l_law_begin c_law_begin k_law_begin).binds (ps := ["_law_script"]) fun _ _ _ _ _ _ us hl => match us, hl with | [_], _ => rfl⟩,
    d__law_take := ⟨f_law_take, _, fun_mk (st := (top 29)) l_law_take c_law_take k_law_take, PySem.W.mg_of X G a_law_take, (fun_mk (st := (top 29)) l_law_take c_law_take k_law_take).binds (ps := ["_law_draw", "_law_size"]) fun _ _ _ _ _ _ us hl => match us, hl with | [_, _], _ => rfl⟩,
    d__law_pick := ⟨f_law_pick, _, fun_mk (st := (top 30)) l_law_pick c_law_pick k_law_pick, PySem.W.mg_of X G a_law_pick, (fun_mk (st := (top 30)) l_law_pick c_law_pick k_law_pick).binds (ps := ["_law_draw", "_law_some"]) fun _ _ _ _ _ _ us hl => match us, hl with | [_, _], _ => rfl⟩,
    d__law_shuffled := ⟨f_law_shuffled, _, fun_mk (st := (top 31)) l_law_shuffled c_law_shuffled k_law_shuffled, PySem.W.mg_of X G a_law_shuffled, (fun_mk (st := (top 31)) l_law_shuffled c_law_shuffled k_law_shuffled).binds (ps := ["_law_draw", "_law_some"]) fun _ _ _ _ _ _ us hl => match us, hl with | [_, _], _ => rfl⟩,
    d__law_blocks := ⟨f_law_blocks, _, fun_mk (st := (top 32)) l_law_blocks c_law_blocks k_law_blocks, PySem.W.mg_of X G a_law_blocks, (fun_mk (st := (top 32)) l_law_blocks c_law_blocks k_law_blocks).binds (ps := ["_law_draw"]) fun _ _ _ _ _ _ us hl => match us, hl with | [_], _ => rfl⟩,
    d__law_layout := ⟨f_law_layout, _, fun_mk (st := (top 33)) l_law_layout c_law_layout k_law_layout, PySem.W.mg_of X G a_law_layout, (fun_mk (st := (top 33)) l_law_layout c_law_layout k_law_layout).binds (ps := ["_law_draw", "_law_menu", "_law_sets"]) fun _ _ _ _ _ _ us hl => match us, hl with | [_, _, _], _ => rfl⟩,
    d__law_distance := ⟨f_law_distance, _, fun_mk (st := (top 34)) l_law_distance c_law_distance k_law_distance, PySem.W.mg_of X G a_law_distance, (fun_mk (st := (top 34)) l_law_distance c_law_distance k_law_distance).binds (ps := ["_law_plan", "_law_seen", "_law_block"]) fun _ _ _ _ _ _ us hl => match us, hl with | [_, _, _], _ => rfl⟩,
    d__law_due := ⟨f_law_due, _, fun_mk (st := (top 35)) l_law_due c_law_due k_law_due, PySem.W.mg_of X G a_law_due, (fun_mk (st := (top 35)) l_law_due c_law_due k_law_due).binds (ps := ["_law_plan", "_law_seen", "_law_eye"]) fun _ _ _ _ _ _ us hl => match us, hl with | [_, _, _], _ => rfl⟩,
    d__law_right := ⟨f_law_right, _, fun_mk (st := (top 36)) l_law_right c_law_right k_law_right, PySem.W.mg_of X G a_law_right, (fun_mk (st := (top 36)) l_law_right c_law_right k_law_right).binds (ps := ["_law_plan", "_law_seen", "_law_eye"]) fun _ _ _ _ _ _ us hl => match us, hl with | [_, _, _], _ => rfl⟩,
    d_law := ⟨flaw, _, fun_mk (st := (top 37)) llaw claw klaw, PySem.W.mg_of X G alaw, (fun_mk (st := (top 37)) llaw claw klaw).binds (ps := ["_law_script"]) fun _ _ _ _ _ _ us hl => match us, hl with | [_], _ => rfl⟩ }
  have e := hfa.symm.trans (PySem.W.mg_of X G alaw)
  cases e
  exact ⟨_, fun s u => .of_eq rfl, fun base _ _ => law_fn (fun_mk (st := (top 37)) llaw claw klaw) V⟩

theorem walk {l : PySem.W.OpenLaw} {q : Program} {loose : List Str} {XP : (Str → Option Value) → Heap → Prop} {YP : World → Heap → Prop} {d : DefRec} {K : Params → PySem.W.Frag} (hn : l.most = some 63) (hdf : d.params.defaults = [])
    (hY : ∀ (w : World) (h : Heap), YP w h → (K w.params).In h)
    (F : ∀ (w : World) (mg : Str → Option Value) (fa : Addr) (h : Heap), (K w.params).In h → h.Ns mainGlobals mg → mg d.name = some (.ref fa) →
      ∃ fd : FuncData, (∀ (s : Shared) (u : Value), BindsTo s fd ⟨[u], []⟩ [("_law_script", u)]) ∧ ∀ base : Heap, (K w.params).In base → base.Ns mainGlobals mg → FnG l.prog w (K w.params) mg base (L2.CX l.prog w) 10 fa fd ["_law_script"] (lowScr (K w.params) spLawT)) :
    PySem.W.WalkO q loose XP YP l.row.toRowW d [] (fun f vs => PySem.call f vs) :=
  walkG_of (n := 63) (k := 10) (x := "_law_script") (CX := fun w => L2.CX l.prog w) (sp := fun w => lowScr (K w.params) spLawT) hn (by decide) hdf ⟨rfl, by decide, by decide⟩ hY F (fun w H a ns hl hO hS => scr_start hl hO hS) fun _ _ _ _ _ z => cx_never z
end K17
open PySem PySem.W PyProof.Rows
set_option maxRecDepth 100000 in
set_option maxHeartbeats 0 in
theorem PySem.Challenge.cw_everymiss_k17_elements_told_holds : PySem.Challenge.rw_everymiss_k17_elements_told.Holds := by
  w_on; o_law; k_head; (case hw => w_witness2)
  k_fill
  refine K17.walk (l := PySem.Challenge.rw_everymiss_k17_elements_told) rfl rfl (fun w h Y => PySem.W.kIn_of Y) ?F
  case F =>
    intro w mg fa h KX G hmg
    refine' K17.all_mk KX G hmg ?z_len ?z_abs ?z_int ?z_list ?z_tuple ?z_sorted ?z_dict ?z_isinstance ?z_range ?z_zip ?z_str ?z_bool ?z_set ?z_repr ?z_max ?z_min ?gLETTERS ?gMOST_KEPT ?gMOST_SETS ?gNOTHING ?lgNOTHING ?lgNOTHING_1 ?gFRESH ?lgFRESH ?lgFRESH_1 ?ais_integer ?lis_integer ?cis_integer ?kis_integer ?ais_name ?lis_name ?cis_name ?kis_name ?ais_set ?lis_set ?cis_set ?kis_set ?ais_layout ?lis_layout ?cis_layout ?kis_layout ?aneed_layout ?lneed_layout ?cneed_layout ?kneed_layout ?aneed_block ?lneed_block ?cneed_block ?kneed_block ?adistances_of ?ldistances_of ?cdistances_of ?kdistances_of ?ais_element ?lis_element ?cis_element ?kis_element ?aneed_element ?lneed_element ?cneed_element ?kneed_element ?atimes ?ltimes ?ctimes ?ktimes ?adistance_at ?ldistance_at ?cdistance_at ?kdistance_at ?adistance_of ?ldistance_of ?cdistance_of ?kdistance_of ?atouch_element ?ltouch_element ?ctouch_element ?ktouch_element ?aelement_of ?lelement_of ?celement_of ?kelement_of ?a_law_begin ?l_law_begin ?c_law_begin ?k_law_begin ?a_law_take ?l_law_take ?c_law_take ?k_law_take ?a_law_pick ?l_law_pick ?c_law_pick ?k_law_pick ?a_law_shuffled ?l_law_shuffled ?c_law_shuffled ?k_law_shuffled ?a_law_blocks ?l_law_blocks ?c_law_blocks ?k_law_blocks ?a_law_layout ?l_law_layout ?c_law_layout ?k_law_layout ?a_law_distance ?l_law_distance ?c_law_distance ?k_law_distance ?a_law_due ?l_law_due ?c_law_due ?k_law_due ?a_law_right ?l_law_right ?c_law_right ?k_law_right ?alaw ?llaw ?claw ?klaw
    (case z_len => k_is)
    (case z_abs => k_is)
    (case z_int => k_is)
    (case z_list => k_is)
    (case z_tuple => k_is)
    (case z_sorted => k_is)
    (case z_dict => k_is)
    (case z_isinstance => k_is)
    (case z_range => k_is)
    (case z_zip => k_is)
    (case z_str => k_is)
    (case z_bool => k_is)
    (case z_set => k_is)
    (case z_repr => k_is)
    (case z_max => k_is)
    (case z_min => k_is)
    (case gLETTERS => k_is)
    (case gMOST_KEPT => k_is)
    (case gMOST_SETS => k_is)
    (case gNOTHING => k_is)
    (case lgNOTHING => k_is)
    (case lgNOTHING_1 => k_is)
    (case gFRESH => k_is)
    (case lgFRESH => k_is)
    (case lgFRESH_1 => k_is)
    (case ais_integer => k_is)
    (case lis_integer => k_is)
    (case cis_integer => k_is)
    (case kis_integer => k_is)
    (case ais_name => k_is)
    (case lis_name => k_is)
    (case cis_name => k_is)
    (case kis_name => k_is)
    (case ais_set => k_is)
    (case lis_set => k_is)
    (case cis_set => k_is)
    (case kis_set => k_is)
    (case ais_layout => k_is)
    (case lis_layout => k_is)
    (case cis_layout => k_is)
    (case kis_layout => k_is)
    (case aneed_layout => k_is)
    (case lneed_layout => k_is)
    (case cneed_layout => k_is)
    (case kneed_layout => k_is)
    (case aneed_block => k_is)
    (case lneed_block => k_is)
    (case cneed_block => k_is)
    (case kneed_block => k_is)
    (case adistances_of => k_is)
    (case ldistances_of => k_is)
    (case cdistances_of => k_is)
    (case kdistances_of => k_is)
    (case ais_element => k_is)
    (case lis_element => k_is)
    (case cis_element => k_is)
    (case kis_element => k_is)
    (case aneed_element => k_is)
    (case lneed_element => k_is)
    (case cneed_element => k_is)
    (case kneed_element => k_is)
    (case atimes => k_is)
    (case ltimes => k_is)
    (case ctimes => k_is)
    (case ktimes => k_is)
    (case adistance_at => k_is)
    (case ldistance_at => k_is)
    (case cdistance_at => k_is)
    (case kdistance_at => k_is)
    (case adistance_of => k_is)
    (case ldistance_of => k_is)
    (case cdistance_of => k_is)
    (case kdistance_of => k_is)
    (case atouch_element => k_is)
    (case ltouch_element => k_is)
    (case ctouch_element => k_is)
    (case ktouch_element => k_is)
    (case aelement_of => k_is)
    (case lelement_of => k_is)
    (case celement_of => k_is)
    (case kelement_of => k_is)
    (case a_law_begin => k_is)
    (case l_law_begin => k_is)
    (case c_law_begin => k_is)
    (case k_law_begin => k_is)
    (case a_law_take => k_is)
    (case l_law_take => k_is)
    (case c_law_take => k_is)
    (case k_law_take => k_is)
    (case a_law_pick => k_is)
    (case l_law_pick => k_is)
    (case c_law_pick => k_is)
    (case k_law_pick => k_is)
    (case a_law_shuffled => k_is)
    (case l_law_shuffled => k_is)
    (case c_law_shuffled => k_is)
    (case k_law_shuffled => k_is)
    (case a_law_blocks => k_is)
    (case l_law_blocks => k_is)
    (case c_law_blocks => k_is)
    (case k_law_blocks => k_is)
    (case a_law_layout => k_is)
    (case l_law_layout => k_is)
    (case c_law_layout => k_is)
    (case k_law_layout => k_is)
    (case a_law_distance => k_is)
    (case l_law_distance => k_is)
    (case c_law_distance => k_is)
    (case k_law_distance => k_is)
    (case a_law_due => k_is)
    (case l_law_due => k_is)
    (case c_law_due => k_is)
    (case k_law_due => k_is)
    (case a_law_right => k_is)
    (case l_law_right => k_is)
    (case c_law_right => k_is)
    (case k_law_right => k_is)
    (case alaw => k_is)
    (case llaw => k_is)
    (case claw => k_is)
    (case klaw => k_is)
