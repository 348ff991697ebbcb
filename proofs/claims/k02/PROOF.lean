import PyProof.Rows.All
import Wide.All
import OpenK.AllK
import Wide.FinOn
import HandS.ForMost
import HandS.Lambda
import KE.KeyNested
import HandS.Iter
import HandS.TupAny
import HandS.Deep
import HandS.Style
import HandS.More
import HandS.DictComp
import HandS.Zip
import HandS.WordsExc
import HandS.IsInst
import HandS.Defaults
import HandS.MakeKwOnly
import HandS.Strs
import PyProof.DictUpdate
import HandS.Property
import HandS.Set
import HandS.SetFor
import HandS.SetTxt0
import PyProof.Rows.SortShellAny
import PyProof.ReprRoads
import HandS.Text
import PyProof.Rows.ReprShort
import HandS.ListItems
import HandS.ExcValue
import HandS.ExcInit
import HandS.ExcField
import HandS.ExcIs
import HandS.TryOnly
import KE.KExcIs
import HandS.EndTab
import HandS.OwnEq
import HandS.DictEq
import HandS.Codes
import HandS.Conv
import KE.GoesEnum
import KE.KDictCopyH
import KE.SortData
import KE.DataCmp
import KE.DataMinMax
import HandS.SortKw
import HandS.TupSets
import KE.KDictKeyed
import KE.SortKeyHeap
import KE.KSortKey
import HandS.Keys
import KE.KNestM
import PyProof.InstNe
import PySem.Challenge.RW_everymiss_k02_programs_as_given
import KE.OsRunLaw
set_option Elab.async false
set_option linter.all false
set_option maxRecDepth 100000
set_option maxHeartbeats 4000000
namespace HdS
open PySem PySem.W PySem.Calls PyProof.Rows HeadRun
theorem m3 {σ α β γ : Type} {r : Option σ} {f : σ -> α} {g : σ -> β} {h : σ -> γ} {a : α} {b : β} {c : γ} (h1 : r.map f = some a) (h2 : r.map g = some b) (h3 : r.map h = some c) :
    r.map (fun s => (f s,g s,h s)) = some (a,b,c):=by
 cases r with
 | none => cases h1
 | some s =>
  have e1 : f s = a:=Option.some.inj h1
  have e2 : g s = b:=Option.some.inj h2
  have e3 : h s = c:=Option.some.inj h3
  show some (f s,g s,h s) = _
  rw [e1,e2,e3]
theorem looks {p : Program} {h0 : Heap} {r : Option SharedT} (h1 : r.map (fun s => staticsOk (importedModules p.main.body) h0 s.abs.heap) = some true) (h2 : r.map (fun s => namesBound p s.abs.heap) = some true)
 (h3 : r.map (fun s => gensDone s.abs) = some true) (h4 : r.map (fun s => laidKept h0 s.abs.heap) = some true) : r.map (fun s => looksF p h0 s.abs) = some true:=by
 cases r with
 | none => cases h1
 | some s =>
  have e1 : staticsOk (importedModules p.main.body) h0 s.abs.heap = true:=Option.some.inj h1
  have e2 : namesBound p s.abs.heap = true:=Option.some.inj h2
  have e3 : gensDone s.abs = true:=Option.some.inj h3
  have e4 : laidKept h0 s.abs.heap = true:=Option.some.inj h4
  show some (staticsOk (importedModules p.main.body) h0 s.abs.heap && namesBound p s.abs.heap && gensDone s.abs && laidKept h0 s.abs.heap) = _
  rw [e1,e2,e3,e4]
  rfl
theorem pick {as : List Addr} {vs : List (Option Obj)} {r : Option SharedT} (n : Nat) (h1 : r.map (fun s => (as.take n).map (getT s)) = some (vs.take n)) (h2 : r.map (fun s => (as.drop n).map (getT s)) = some (vs.drop n)) :
    r.map (fun s => as.map (getT s)) = some vs:=by
 cases r with
 | none => cases h1
 | some s =>
  have e1 : (as.take n).map (getT s) = vs.take n:=Option.some.inj h1
  have e2 : (as.drop n).map (getT s) = vs.drop n:=Option.some.inj h2
  show some (as.map (getT s)) = _
  rw [<- List.take_append_drop n as,List.map_append,e1,e2,List.take_append_drop]
noncomputable abbrev p1 {A B : Type} (x : A × B) : A:=@Prod.rec A B (fun _ => A) (fun a _ => a) x
noncomputable abbrev p2 {A B : Type} (x : A × B) : B:=@Prod.rec A B (fun _ => B) (fun _ b => b) x
theorem g8 {A B : Type} {x y : A × B} (h : p1 x = p1 y) (k : p2 x = p2 y) : x = y:=by
 obtain ⟨a,b⟩:=x
 obtain ⟨c,d⟩:=y
 have e1 : a = c:=h
 have e2 : b = d:=k
 rw [e1,e2]
theorem m9 {σ A1 A2 A3 A4 A5 A6 A7 A8 A9 : Type} {r : Option σ} {F : σ -> A1 × A2 × A3 × A4 × A5 × A6 × A7 × A8 × A9} {G : A1 × A2 × A3 × A4 × A5 × A6 × A7 × A8 × A9}
 (h1 : r.map (fun s => p1 (F s)) = some (p1 (G))) (h2 : r.map (fun s => p1 (p2 (F s))) = some (p1 (p2 (G)))) (h3 : r.map (fun s => p1 (p2 (p2 (F s)))) = some (p1 (p2 (p2 (G))))) (h4 : r.map (fun s => p1 (p2 (p2 (p2 (F s))))) = some (p1 (p2 (p2 (p2 (G)))))) (h5 : r.map (fun s => p1 (p2 (p2 (p2 (p2 (F s)))))) = some (p1 (p2 (p2 (p2 (p2 (G))))))) (h6 : r.map (fun s => p1 (p2 (p2 (p2 (p2 (p2 (F s))))))) = some (p1 (p2 (p2 (p2 (p2 (p2 (G)))))))) (h7 : r.map (fun s => p1 (p2 (p2 (p2 (p2 (p2 (p2 (F s)))))))) = some (p1 (p2 (p2 (p2 (p2 (p2 (p2 (G))))))))) (h8 : r.map (fun s => p1 (p2 (p2 (p2 (p2 (p2 (p2 (p2 (F s))))))))) = some (p1 (p2 (p2 (p2 (p2 (p2 (p2 (p2 (G)))))))))) (h9 : r.map (fun s => p2 (p2 (p2 (p2 (p2 (p2 (p2 (p2 (F s))))))))) = some (p2 (p2 (p2 (p2 (p2 (p2 (p2 (p2 (G)))))))))) : r.map F = some G:=by
 cases r with
 | none => cases h1
 | some s =>
  show some (F s) = _
  have e : F s = G:=g8 (Option.some.inj h1) (g8 (Option.some.inj h2) (g8 (Option.some.inj h3) (g8 (Option.some.inj h4) (g8 (Option.some.inj h5) (g8 (Option.some.inj h6) (g8 (Option.some.inj h7) (g8 (Option.some.inj h8) (Option.some.inj h9))))))))
  rw [e]
noncomputable abbrev hd {A : Type} (l : List A) : Option A:=@List.rec A (fun _ => Option A) none (fun a _ _ => some a) l
noncomputable abbrev tl {A : Type} (l : List A) : List A:=@List.rec A (fun _ => List A) [] (fun _ t _ => t) l
theorem acI {σ A : Type} {r : Option σ} {f : σ -> List A} {v : List A} (h1 : r.map (fun s => hd (f s)) = some (hd v)) (h2 : r.map (fun s => tl (f s)) = some (tl v)) : r.map f = some v:=by
 cases r with
 | none => cases h1
 | some s =>
  have e1 : hd (f s) = hd v:=Option.some.inj h1
  have e2 : tl (f s) = tl v:=Option.some.inj h2
  show some (f s) = _
  have e : f s = v:=by
   revert e1 e2
   generalize f s = l
   cases l with
   | nil =>
    cases v with
    | nil => intros; rfl
    | cons b v => intro e1 _; cases (e1 : (none : Option A) = some b)
   | cons a l =>
    cases v with
    | nil => intro e1 _; cases (e1 : some a = (none : Option A))
    | cons b v =>
     intro e1 e2
     exact congr (congrArg List.cons (Option.some.inj (e1 : some a = some b))) (e2 : l = v)
  rw [e]
theorem n6 {A : Type} {l v : List A} (e1 : hd l = hd v) (e2 : tl l = tl v) : l = v:=by
 cases l with
 | nil =>
  cases v with
  | nil => rfl
  | cons b v => cases (e1 : (none : Option A) = some b)
 | cons a l =>
  cases v with
  | nil => cases (e1 : some a = (none : Option A))
  | cons b v => exact congr (congrArg List.cons (Option.some.inj (e1 : some a = some b))) (e2 : l = v)
noncomputable abbrev oq {A B : Type} (f : A -> B) (x : Option A) : Option B:=@Option.rec A (fun _ => Option B) none (fun a => some (f a)) x
theorem xo {A B : Type} {f : A -> B} {x y : Option A} (h : oq f x = oq f y) : (x = none /\ y = none) \/ ∃ a b,x = some a /\ y = some b /\ f a = f b:=by
 cases x with
 | none =>
  cases y with
  | none => exact .inl ⟨rfl,rfl⟩
  | some b => cases (h : (none : Option B) = some (f b))
 | some a =>
  cases y with
  | none => cases (h : some (f a) = (none : Option B))
  | some b => exact .inr ⟨a,b,rfl,rfl,Option.some.inj (h : some (f a) = some (f b))⟩
noncomputable abbrev f9 {A : Type} (l : List A) : Option A × Option A × Option A × Option A:=(hd l,hd (tl l),hd (tl (tl l)),hd (tl (tl (tl l))))
noncomputable abbrev fV {A : Type} (l : List A) : List A:=tl (tl (tl (tl l)))
theorem acb {A : Type} {l v : List A} (h : f9 l = f9 v) (k : fV l = fV v) : l = v:=by
 have e : hd l = hd v /\ hd (tl l) = hd (tl v) /\ hd (tl (tl l)) = hd (tl (tl v)) /\ hd (tl (tl (tl l))) = hd (tl (tl (tl v))):=by
  have:=Prod.mk.inj h
  have h2:=Prod.mk.inj this.2
  have h3:=Prod.mk.inj h2.2
  exact ⟨this.1,h2.1,h3.1,h3.2⟩
 exact n6 e.1 (n6 e.2.1 (n6 e.2.2.1 (n6 e.2.2.2 k)))
noncomputable abbrev sm (x : PlainShape) : List (Option FnShape):=@PlainShape.rec (fun _ => List (Option FnShape)) (fun _ _ _ _ _ _ _ _ _ m _ => m) x
noncomputable abbrev sr (x : PlainShape) : Value × Bool × Bool × Bool × Bool × Nat × Option (Option Value) × Bool × Bool × Bool :=
 @PlainShape.rec (fun _ => Value × Bool × Bool × Bool × Bool × Nat × Option (Option Value) × Bool × Bool × Bool) (fun a b c d e f g h i _ k => (a,b,c,d,e,f,g,h,i,k)) x
theorem abk {x y : PlainShape} (h1 : sr x = sr y) (h2 : sm x = sm y) : x = y:=by
 obtain ⟨a,b,c,d,e,f,g,h,i,m,k⟩:=x
 obtain ⟨a',b',c',d',e',f',g',h',i',m',k'⟩:=y
 have q1 : (a,b,c,d,e,f,g,h,i,k) = (a',b',c',d',e',f',g',h',i',k'):=h1
 have q2 : m = m':=h2
 simp only [Prod.mk.injEq] at q1
 obtain ⟨rfl,rfl,rfl,rfl,rfl,rfl,rfl,rfl,rfl,rfl⟩:=q1
 subst q2
 rfl
theorem m6 {σ : Type} {r : Option σ} {f : σ -> List (Option PlainShape)} {v : List (Option PlainShape)}
 (h1 : r.map (fun s => oq (oq sr) (hd (f s))) = some (oq (oq sr) (hd v)))
 (h2 : r.map (fun s => oq (oq (fun x => f9 (sm x))) (hd (f s))) = some (oq (oq (fun x => f9 (sm x))) (hd v)))
 (h3 : r.map (fun s => oq (oq (fun x => fV (sm x))) (hd (f s))) = some (oq (oq (fun x => fV (sm x))) (hd v)))
 (h4 : r.map (fun s => tl (f s)) = some (tl v)) : r.map f = some v:=by
 refine acI ?_ h4
 cases r with
 | none => cases h1
 | some s =>
  have e1 : oq (oq sr) (hd (f s)) = oq (oq sr) (hd v):=Option.some.inj h1
  have e2 : oq (oq (fun x => f9 (sm x))) (hd (f s)) = oq (oq (fun x => f9 (sm x))) (hd v):=Option.some.inj h2
  have e3 : oq (oq (fun x => fV (sm x))) (hd (f s)) = oq (oq (fun x => fV (sm x))) (hd v):=Option.some.inj h3
  show some (hd (f s)) = some (hd v)
  refine congrArg some ?_
  generalize hd (f s) = x at e1 e2 e3
  generalize hd v = y at e1 e2 e3
  rcases xo e1 with ⟨rfl,rfl⟩ | ⟨a,b,rfl,rfl,q1⟩
  . rfl
  . have q2 : oq (fun x => f9 (sm x)) a = oq (fun x => f9 (sm x)) b:=Option.some.inj e2
    have q3 : oq (fun x => fV (sm x)) a = oq (fun x => fV (sm x)) b:=Option.some.inj e3
    rcases xo q1 with ⟨rfl,rfl⟩ | ⟨x,y,rfl,rfl,p1⟩
    . rfl
    . have p2 : f9 (sm x) = f9 (sm y):=Option.some.inj q2
      have p3 : fV (sm x) = fV (sm y):=Option.some.inj q3
      rw [abk p1 (acb p2 p3)]
theorem afu {σ C X : Type} {r : Option σ} {l : List C} {f : σ -> C -> X} {g : C -> X} (e : tl (tl (tl l)) = []) (h1 : r.map (fun s => oq (f s) (hd l)) = some (oq g (hd l)))
 (h2 : r.map (fun s => oq (f s) (hd (tl l))) = some (oq g (hd (tl l)))) (h3 : r.map (fun s => oq (f s) (hd (tl (tl l)))) = some (oq g (hd (tl (tl l))))) : r.map (fun s => l.map (f s)) = some (l.map g):=by
 cases r with
 | none => cases h1
 | some s =>
  have e1 : oq (f s) (hd l) = oq g (hd l):=Option.some.inj h1
  have e2 : oq (f s) (hd (tl l)) = oq g (hd (tl l)):=Option.some.inj h2
  have e3 : oq (f s) (hd (tl (tl l))) = oq g (hd (tl (tl l))):=Option.some.inj h3
  show some (l.map (f s)) = some (l.map g)
  refine congrArg some ?_
  match l,e,e1,e2,e3 with
  | [],_,_,_,_ => rfl
  | [a],_,e1,_,_ =>
   have q1 : f s a = g a:=Option.some.inj e1
   rw [List.map_cons,List.map_cons,q1]
   rfl
  | [a,b],_,e1,e2,_ =>
   have q1 : f s a = g a:=Option.some.inj e1
   have q2 : f s b = g b:=Option.some.inj e2
   rw [List.map_cons,List.map_cons,List.map_cons,List.map_cons,q1,q2]
   rfl
  | [a,b,c],_,e1,e2,e3 =>
   have q1 : f s a = g a:=Option.some.inj e1
   have q2 : f s b = g b:=Option.some.inj e2
   have q3 : f s c = g c:=Option.some.inj e3
   rw [List.map_cons,List.map_cons,List.map_cons,List.map_cons,List.map_cons,List.map_cons,q1,q2,q3]
   rfl
  | a :: b :: c :: d :: l,e,_,_,_ => cases (e : d :: l = [])
theorem ph {σ A B C D : Type} {r : Option σ} {f : σ -> A} {g : σ -> B} {h : σ -> C} {k : σ -> D} {a : A} {b : B} {c : C} {d : D} (x : r.map (fun s => (f s,g s,h s,k s)) = some (a,b,c,d)) :
    r.map f = some a /\ r.map g = some b /\ r.map h = some c /\ r.map k = some d:=by
 cases r with
 | none => cases x
 | some s =>
  have e : (f s,g s,h s,k s) = (a,b,c,d):=Option.some.inj x
  simp only [Prod.mk.injEq] at e
  obtain ⟨e1,e2,e3,e4⟩:=e
  exact ⟨congrArg some e1,congrArg some e2,congrArg some e3,congrArg some e4⟩
theorem idp {p : Prop} (h : p) : p:=h
end HdS
namespace HdP
open PySem PySem.W PySem.Calls PyProof.Rows HeadRun HdS
def q0 : Program:={ PySem.Challenge.pw_everymiss_k02_programs_as_given with main:={ PySem.Challenge.pw_everymiss_k02_programs_as_given.main with body:=[0,2,3,4,5,7,8,9,10,11,12,13,14,15,16,17,18,19,20,22,23,24,25,26,27,28,29,30,31].filterMap fun i => PySem.Challenge.pw_everymiss_k02_programs_as_given.main.body[i]? } }
def lo : List PySem.Str:=[PySem.Str.ofString "Program"]
noncomputable def F (s : SharedT):=seenQ q0 lo (importedModules PySem.Challenge.pw_everymiss_k02_programs_as_given.main.body) (fun s => xlAt q0 [] s && recOk (RowW.records (OpenRow.toRowW PySem.Challenge.rw_everymiss_k02_programs_as_given.row)) s) s.abs
theorem jJ : ∀ (w : World) (os : OsState),(endF (stepQ (denQ tabQ) PySem.Challenge.pw_everymiss_k02_programs_as_given w) 4460 PySem.Challenge.pw_everymiss_k02_programs_as_given w os).map (fun s => (p1 (p2 (F s)),p1 (p2 (p2 (p2 (p2 (F s))))),p1 (p2 (p2 (p2 (p2 (p2 (p2 (F s))))))),p2 (p2 (p2 (p2 (p2 (p2 (p2 (p2 (F s)))))))))) = some (p1 (p2 (openGood q0 lo)),p1 (p2 (p2 (p2 (p2 (openGood q0 lo))))),p1 (p2 (p2 (p2 (p2 (p2 (p2 (openGood q0 lo))))))),p2 (p2 (p2 (p2 (p2 (p2 (p2 (p2 (openGood q0 lo))))))))):=by
 intro w os
 kernel_rfl
theorem hb1 : ∀ (w : World) (os : OsState),(endF (stepQ (denQ tabQ) PySem.Challenge.pw_everymiss_k02_programs_as_given w) 4460 PySem.Challenge.pw_everymiss_k02_programs_as_given w os).map (fun s => p1 (F s)) = some (p1 (openGood q0 lo)):=by
 intro w os
 kernel_rfl
theorem hb2 : ∀ (w : World) (os : OsState),(endF (stepQ (denQ tabQ) PySem.Challenge.pw_everymiss_k02_programs_as_given w) 4460 PySem.Challenge.pw_everymiss_k02_programs_as_given w os).map (fun s => p1 (p2 (F s))) = some (p1 (p2 (openGood q0 lo))):=by
 intro w os
 exact (ph (jJ w os)).1
theorem hb3 : ∀ (w : World) (os : OsState),(endF (stepQ (denQ tabQ) PySem.Challenge.pw_everymiss_k02_programs_as_given w) 4460 PySem.Challenge.pw_everymiss_k02_programs_as_given w os).map (fun s => p1 (p2 (p2 (F s)))) = some (p1 (p2 (p2 (openGood q0 lo)))):=by
 intro w os
 kernel_rfl
theorem hb4 : ∀ (w : World) (os : OsState),(endF (stepQ (denQ tabQ) PySem.Challenge.pw_everymiss_k02_programs_as_given w) 4460 PySem.Challenge.pw_everymiss_k02_programs_as_given w os).map (fun s => p1 (p2 (p2 (p2 (F s))))) = some (p1 (p2 (p2 (p2 (openGood q0 lo))))):=by
 intro w os
 kernel_rfl
theorem hb5 : ∀ (w : World) (os : OsState),(endF (stepQ (denQ tabQ) PySem.Challenge.pw_everymiss_k02_programs_as_given w) 4460 PySem.Challenge.pw_everymiss_k02_programs_as_given w os).map (fun s => p1 (p2 (p2 (p2 (p2 (F s)))))) = some (p1 (p2 (p2 (p2 (p2 (openGood q0 lo)))))):=by
 intro w os
 exact (ph (jJ w os)).2.1
theorem hb6 : ∀ (w : World) (os : OsState),(endF (stepQ (denQ tabQ) PySem.Challenge.pw_everymiss_k02_programs_as_given w) 4460 PySem.Challenge.pw_everymiss_k02_programs_as_given w os).map (fun s => p1 (p2 (p2 (p2 (p2 (p2 (F s))))))) = some (p1 (p2 (p2 (p2 (p2 (p2 (openGood q0 lo))))))):=by
 intro w os
 kernel_rfl
theorem hb7 : ∀ (w : World) (os : OsState),(endF (stepQ (denQ tabQ) PySem.Challenge.pw_everymiss_k02_programs_as_given w) 4460 PySem.Challenge.pw_everymiss_k02_programs_as_given w os).map (fun s => p1 (p2 (p2 (p2 (p2 (p2 (p2 (F s)))))))) = some (p1 (p2 (p2 (p2 (p2 (p2 (p2 (openGood q0 lo)))))))):=by
 intro w os
 exact (ph (jJ w os)).2.2.1
theorem hb8 : ∀ (w : World) (os : OsState),(endF (stepQ (denQ tabQ) PySem.Challenge.pw_everymiss_k02_programs_as_given w) 4460 PySem.Challenge.pw_everymiss_k02_programs_as_given w os).map (fun s => p1 (p2 (p2 (p2 (p2 (p2 (p2 (p2 (F s))))))))) = some (p1 (p2 (p2 (p2 (p2 (p2 (p2 (p2 (openGood q0 lo))))))))):=by
 intro w os
 kernel_rfl
theorem hb9 : ∀ (w : World) (os : OsState),(endF (stepQ (denQ tabQ) PySem.Challenge.pw_everymiss_k02_programs_as_given w) 4460 PySem.Challenge.pw_everymiss_k02_programs_as_given w os).map (fun s => p2 (p2 (p2 (p2 (p2 (p2 (p2 (p2 (F s))))))))) = some (p2 (p2 (p2 (p2 (p2 (p2 (p2 (p2 (openGood q0 lo))))))))):=by
 intro w os
 exact (ph (jJ w os)).2.2.2
end HdP
namespace Dv
open PySem
def jD : List Str:=[]
end Dv
noncomputable section
namespace Dv
open PySem L2
abbrev Fr0:=PySem.W.Frag
structure Lm where
 q : Str
 params : Arguments
 body : Expr
 scope : Scope
 cl : List (Str × Addr)
 c : Addr
inductive T where
 | non | bl (b : Bool) | int (i : Int) | str (x : Str) | tup (xs : List T) | ref (a : Addr) | ty (n : String) | ptup (xs : List T) | exc (C : Addr) (ns : List Str) (ts : List T) | lam (L : Lm)
inductive O where
 | lst (xs : List T)
 | dic (kvs : List (T × T))
 | fdic (ob : Obj) (raw : List (Key × V)) (kvs : List (T × T))
 | ins (C : Addr) (fs : List (Str × T))
 | drw (n : Nat)
 | dicN (kvs : List (T × T))
 | fdicN (ob : Obj) (raw : List (NestedKey × Addr × V)) (kvs : List (T × T))
abbrev Gp:=Addr -> Option O
def gup (G : Gp) (a : Addr) (o : O) : Gp:=fun b => if b = a then some o else G b
theorem aH {G : Gp} {a : Addr} {o : O} : gup G a o a = some o:=by unfold gup; simp
theorem ao {G : Gp} {a b : Addr} {o : O} (h : b ≠ a) : gup G a o b = G b:=by unfold gup; simp [h]
theorem xF {G : Gp} {a : Addr} {o u : O} : gup (gup G a o) a u = gup G a u:=by
 funext b; unfold gup; split <;> rfl
theorem kG {G : Gp} {a b : Addr} {o u : O} (h : a ≠ b) : gup (gup G a o) b u = gup (gup G b u) a o:=by
 funext c; unfold gup
 by_cases h1 : c = b
 . subst h1; simp [Ne.symm h]
 . simp [h1]
class Wld where
 w : World
def aL (wd : World) (a : Addr) (raw : List (NestedKey × Addr × V)) : HO:=.ext fun h => (raw.length <= sizeLine /\ (a == sysModules) = false) /\ ∃ (o : Obj) (es : Array DictEntry) (ep : Nat) (xs : List (NestedKey × Addr × Value)),h.get? a = some o /\ o.ExactDict /\ o.data = .dict es ep /\
 es.toList = xs.map (fun x => (⟨x.1.hash wd,.ref x.2.1,x.2.2⟩ : DictEntry)) /\ (xs.map (·.1)).Nodup /\ Paired (fun (p : NestedKey × Addr × V) (x : NestedKey × Addr × Value) => p.1 = x.1 /\ p.2.1 = x.2.1 /\ RelV p.2.2 x.2.2) raw xs
def iE (p C : Addr) (d : Option Addr) : HO:=.ext fun h => ∃ (oe : Obj) (vs : Array Value),h.get? p = some oe /\ L2.Zc (.ref C) d oe /\ oe.data = .fields vs
def lV (f : Addr) (L : Lm) : HO:=.ext fun h => ∃ (pm ctv : Value),h.get? f = some (PySem.W.kla_obj "<lambda>" L.q L.params L.body L.scope L.cl pm L.c ctv)
def qT (H : Hp) (raw : List (Str × V)) : Option Addr -> Prop
 | none => raw = []
 | some dd => H dd = some (.xd raw)
mutual
inductive Rel (K : Fr0) (H : Hp) : V -> T -> Prop
 | non : Rel K H .non .non
 | bl (b : Bool) : Rel K H (.bl b) (.bl b)
 | int (i : Int) : Rel K H (.int i) (.int i)
 | str (x : Str) : Rel K H (.str x) (.str x)
 | ty (n : String) : Rel K H (.ty n) (.ty n)
 | ref (a : Addr) : Rel K H (.ref a) (.ref a)
 | tup {p : Addr} {xs : List V} {ts : List T} : SqT K H p xs -> RelL K H xs ts -> Rel K H (.ref p) (.tup ts)
 | ptup {p : Addr} {o : Obj} {xs : List V} {ts : List T} : H p = some (.frz o (.tup xs)) -> o.dict = none -> RelL K H xs ts -> Rel K H (.ref p) (.ptup ts)
 | exc {p C : Addr} {d : Option Addr} {raw : List (Str × V)} {ns : List Str} {xs : List V} {ts : List T} : H p = some (iE p C d) -> qT H raw d -> raw.map (·.1) = ns -> raw.map (·.2) = xs -> RelL K H xs ts -> Rel K H (.ref p) (.exc C ns ts)
 | lam {f : Addr} {L : Lm} : H f = some (lV f L) -> H L.c = some (LamX.CodeO L.c L.q) -> Rel K H (.ref f) (.lam L)
inductive RelL (K : Fr0) (H : Hp) : List V -> List T -> Prop
 | nil : RelL K H [] []
 | cons {v : V} {t : T} {vs : List V} {ts : List T} : Rel K H v t -> RelL K H vs ts -> RelL K H (v :: vs) (t :: ts)
end
def mz (p : Addr) (oe : Obj) : Heap:={ objs:=Array.replicate (p + 1) oe }
theorem zC {p : Addr} {oe : Obj} {vs : Array Value} (hf : oe.data = .fields vs) : (mz p oe).get? p = some oe:=by
 unfold Heap.get? mz
 have : (Array.replicate (p + 1) oe)[p]? = some oe:=by simp
 simp only [this]
 obtain ⟨c,d,dt,sl⟩:=oe
 cases hf
 rfl
theorem aeh {p : Addr} {oe : Obj} {vs : Array Value} (hf : oe.data = .fields vs) : ∀ b o,(mz p oe).get? b = some o -> o = oe:=fun b o h => by
 unfold Heap.get? mz at h
 obtain ⟨c,d,dt,sl⟩:=oe
 cases hf
 by_cases hb : b < p + 1
 . have : (Array.replicate (p + 1) (⟨c,d,.fields vs,sl⟩ : Obj))[b]? = some ⟨c,d,.fields vs,sl⟩:=by simp [hb]
   simp only [this] at h
   exact (Option.some.inj h).symm
 . have : (Array.replicate (p + 1) (⟨c,d,.fields vs,sl⟩ : Obj))[b]? = none:=by
     rw [Array.getElem?_eq_none_iff,Array.size_replicate]
     exact Nat.not_lt.mp hb
   simp only [this] at h
   cases h
theorem y7 {φ : Heap -> Prop} {p : Addr} {oe : Obj} {vs : Array Value} (hf : oe.data = .fields vs) (h : φ (mz p oe)) {wd : World} {a : Addr} {raw : List (NestedKey × Addr × V)} : HO.ext φ ≠ aL wd a raw:=by
 intro e
 unfold aL at e
 injection e with e
 rw [e] at h
 obtain ⟨_,o,es,ep,xs,h1,_,h2,_⟩:=h
 rw [aeh hf _ _ h1,hf] at h2
 cases h2
theorem acQ {φ : Heap -> Prop} {h : Heap} (hd : ∀ b o,h.get? b = some o -> ∀ es ep,o.data ≠ .dict es ep) (hh : φ h) {wd : World} {a : Addr} {raw : List (NestedKey × Addr × V)} : HO.ext φ ≠ aL wd a raw:=by
 intro e
 unfold aL at e
 injection e with e
 rw [e] at hh
 obtain ⟨_,o,es,ep,xs,h1,_,h2,_⟩:=hh
 exact hd _ _ h1 _ _ h2
theorem abG {f : Addr} {L : Lm} {wd : World} {a : Addr} {raw : List (NestedKey × Addr × V)} : lV f L ≠ aL wd a raw:=by
 refine acQ (h:={ objs:=Array.replicate (f + 1) (PySem.W.kla_obj "<lambda>" L.q L.params L.body L.scope L.cl .none L.c .none) }) (fun b o hb es ep z => ?_) ⟨.none,.none,?_⟩
 . unfold Heap.get? at hb
   by_cases hlt : b < f + 1
   . have : (Array.replicate (f + 1) (PySem.W.kla_obj "<lambda>" L.q L.params L.body L.scope L.cl .none L.c .none))[b]? = some (PySem.W.kla_obj "<lambda>" L.q L.params L.body L.scope L.cl .none L.c .none):=by simp [hlt]
     simp only [this] at hb
     rw [<- Option.some.inj hb] at z
     cases z
   . have : (Array.replicate (f + 1) (PySem.W.kla_obj "<lambda>" L.q L.params L.body L.scope L.cl .none L.c .none))[b]? = none:=by
       rw [Array.getElem?_eq_none_iff,Array.size_replicate]
       exact Nat.not_lt.mp hlt
     simp only [this] at hb
     cases hb
 . unfold Heap.get?
   have : (Array.replicate (f + 1) (PySem.W.kla_obj "<lambda>" L.q L.params L.body L.scope L.cl .none L.c .none))[f]? = some (PySem.W.kla_obj "<lambda>" L.q L.params L.body L.scope L.cl .none L.c .none):=by simp
   simp only [this]
theorem abM {p C : Addr} {d : Option Addr} {wd : World} {a : Addr} {raw : List (NestedKey × Addr × V)} : iE p C d ≠ aL wd a raw :=
 y7 (p:=p) (oe:={ cls:=.ref C,dict:=d,data:=.fields #[] }) rfl ⟨_,#[],zC rfl,⟨rfl,rfl⟩,rfl⟩
theorem aaI {c : Addr} {q : Str} {wd : World} {a : Addr} {raw : List (NestedKey × Addr × V)} : LamX.CodeO c q ≠ aL wd a raw :=
 y7 (p:=c) (oe:={ cls:=.none,dict:=none,data:=.fields #[.none,.str q 0] }) rfl ⟨_,#[.none,.str q 0],0,zC rfl,rfl,rfl⟩
open Classical in
noncomputable def kind : HO -> Bool
 | .ext φ => decide (∃ wd a raw,HO.ext φ = aL wd a raw)
 | .lst _ => true
 | .dK _ => true
 | .ins _ _ _ => true
 | .frz _ (.dK _) => true
 | .frz _ (.ext φ) => decide (∃ wd a raw,HO.ext φ = aL wd a raw)
 | _ => false
theorem abH {p C : Addr} {d : Option Addr} : kind (iE p C d) = false:=by
 classical
 exact decide_eq_false fun ⟨_,_,_,e⟩ => abM e
theorem wD {c : Addr} {q : Str} : kind (LamX.CodeO c q) = false:=by
 classical
 exact decide_eq_false fun ⟨_,_,_,e⟩ => aaI e
theorem abB {f : Addr} {L : Lm} : kind (lV f L) = false:=by
 classical
 exact decide_eq_false fun ⟨_,_,_,e⟩ => abG e
theorem x9 {wd : World} {a : Addr} {raw : List (NestedKey × Addr × V)} : kind (aL wd a raw) = true:=by
 classical
 exact decide_eq_true ⟨_,_,_,rfl⟩
theorem aef {ob : Obj} {wd : World} {a : Addr} {raw : List (NestedKey × Addr × V)} : kind (.frz ob (aL wd a raw)) = true:=by
 classical
 exact decide_eq_true ⟨_,_,_,rfl⟩
def a9 (K : Fr0) (H H' : Hp) : Prop:=∀ p o,H p = some o -> kind o = false -> (∀ ps,o ≠ .tbl ps) -> H' p = some o
theorem a9.tup {K : Fr0} {H H' : Hp} (st : a9 K H H') {p : Addr} {xs : List V} (h : SqT K H p xs) : SqT K H' p xs:=by
 rcases h with (h | ⟨o,h⟩) | h
 . exact .inl (.inl (st _ _ h rfl fun ps z => by cases z))
 . exact .inl (.inr ⟨o,st _ _ h rfl fun ps z => by cases z⟩)
 . exact .inr h
theorem a9.frz {K : Fr0} {H H' : Hp} (st : a9 K H H') {p : Addr} {o : Obj} {xs : List V} (h : H p = some (.frz o (.tup xs))) : H' p = some (.frz o (.tup xs)):=st _ _ h rfl fun ps z => by cases z
theorem a9.xdat {K : Fr0} {H H' : Hp} (st : a9 K H H') {raw : List (Str × V)} {d : Option Addr} (h : qT H raw d) : qT H' raw d:=by
 cases d with
 | none => exact h
 | some dd => exact st _ _ h rfl fun ps z => by cases z
theorem a9.exc {K : Fr0} {H H' : Hp} (st : a9 K H H') {p q C : Addr} {d : Option Addr} (h : H p = some (iE q C d)) : H' p = some (iE q C d):=st _ _ h abH fun ps z => by cases z
theorem a9.lam {K : Fr0} {H H' : Hp} (st : a9 K H H') {p q : Addr} {L : Lm} (h : H p = some (lV q L)) : H' p = some (lV q L):=st _ _ h abB fun ps z => by cases z
theorem a9.code {K : Fr0} {H H' : Hp} (st : a9 K H H') {p q : Addr} {n : Str} (h : H p = some (LamX.CodeO q n)) : H' p = some (LamX.CodeO q n):=st _ _ h wD fun ps z => by cases z
mutual
theorem Rel.stay {K : Fr0} {H H' : Hp} (st : a9 K H H') : ∀ {t : T} {v : V},Rel K H v t -> Rel K H' v t
 | .non,_,.non => .non
 | .bl _,_,.bl _ => .bl _
 | .int _,_,.int _ => .int _
 | .str _,_,.str _ => .str _
 | .ty _,_,.ty _ => .ty _
 | .ref _,_,.ref _ => .ref _
 | .tup _,_,.tup h r => .tup (st.tup h) (RelL.stay st r)
 | .ptup _,_,.ptup h d r => .ptup (st.frz h) d (RelL.stay st r)
 | .exc _ _ _,_,.exc h d e1 e2 r => .exc (st.exc h) (st.xdat d) e1 e2 (RelL.stay st r)
 | .lam _,_,.lam h c => .lam (st.lam h) (st.code c)
theorem RelL.stay {K : Fr0} {H H' : Hp} (st : a9 K H H') : ∀ {ts : List T} {vs : List V},RelL K H vs ts -> RelL K H' vs ts
 | [],_,.nil => .nil
 | _ :: _,_,.cons r t => .cons (Rel.stay st r) (RelL.stay st t)
end
theorem RelL.length {K : Fr0} {H : Hp} : ∀ {vs : List V} {ts : List T},RelL K H vs ts -> vs.length = ts.length
 | _,_,.nil => rfl
 | _,_,.cons _ r => by simp [RelL.length r]
theorem RelL.get {K : Fr0} {H : Hp} : ∀ {vs : List V} {ts : List T} {i : Nat} {t : T},RelL K H vs ts -> ts[i]? = some t -> ∃ v,vs[i]? = some v /\ Rel K H v t
 | _,_,i,t,.nil,e => by simp at e
 | _,_,0,t,.cons r _,e => by simp at e; subst e; exact ⟨_,by simp,r⟩
 | _,_,i + 1,t,.cons _ r,e => by
  obtain ⟨v,h1,h2⟩:=RelL.get (i:=i) (t:=t) r (by simpa using e)
  exact ⟨v,by simpa using h1,h2⟩
theorem RelL.getV {K : Fr0} {H : Hp} : ∀ {vs : List V} {ts : List T} {i : Nat} {v : V},RelL K H vs ts -> vs[i]? = some v -> ∃ t,ts[i]? = some t /\ Rel K H v t
 | _,_,i,v,.nil,e => by simp at e
 | _,_,0,v,.cons r _,e => by simp at e; subst e; exact ⟨_,by simp,r⟩
 | _,_,i + 1,v,.cons _ r,e => by
  obtain ⟨t,h1,h2⟩:=RelL.getV (i:=i) (v:=v) r (by simpa using e)
  exact ⟨t,by simpa using h1,h2⟩
theorem RelL.app {K : Fr0} {H : Hp} : ∀ {vs ws : List V} {ts us : List T},RelL K H vs ts -> RelL K H ws us -> RelL K H (vs ++ ws) (ts ++ us)
 | _,_,_,_,.nil,s => s
 | _,_,_,_,.cons r t,s => .cons r (RelL.app t s)
theorem RelL.drop {K : Fr0} {H : Hp} : ∀ {vs : List V} {ts : List T} (n : Nat),RelL K H vs ts -> RelL K H (vs.drop n) (ts.drop n)
 | _,_,0,r => r
 | _,_,_ + 1,.nil => .nil
 | _,_,n + 1,.cons _ r => RelL.drop n r
theorem RelL.take {K : Fr0} {H : Hp} : ∀ {vs : List V} {ts : List T} (n : Nat),RelL K H vs ts -> RelL K H (vs.take n) (ts.take n)
 | _,_,0,_ => .nil
 | _,_,_ + 1,.nil => .nil
 | _,_,n + 1,.cons h r => .cons h (RelL.take n r)
theorem RelL.set {K : Fr0} {H : Hp} {v : V} {t : T} (h : Rel K H v t) : ∀ {vs : List V} {ts : List T} (n : Nat),RelL K H vs ts -> RelL K H (vs.set n v) (ts.set n t)
 | _,_,_,.nil => .nil
 | _,_,0,.cons _ r => .cons h r
 | _,_,n + 1,.cons q r => .cons q (RelL.set h n r)
theorem RelL.erase {K : Fr0} {H : Hp} : ∀ {vs : List V} {ts : List T} (n : Nat),RelL K H vs ts -> RelL K H (vs.eraseIdx n) (ts.eraseIdx n)
 | _,_,_,.nil => .nil
 | _,_,0,.cons _ r => r
 | _,_,n + 1,.cons q r => .cons q (RelL.erase n r)
theorem RelL.rev {K : Fr0} {H : Hp} : ∀ {vs : List V} {ts : List T},RelL K H vs ts -> RelL K H vs.reverse ts.reverse
 | _,_,.nil => .nil
 | _,_,.cons q r => by
  rw [List.reverse_cons,List.reverse_cons]
  exact (RelL.rev r).app (.cons q .nil)
def kT : Key -> T
 | .inl i => .int i
 | .inr x => .str x
inductive RelD (K : Fr0) (H : Hp) : List (Key × V) -> List (T × T) -> Prop
 | nil : RelD K H [] []
 | cons {k : Key} {v : V} {t : T} {kvs : List (Key × V)} {ts : List (T × T)} : Rel K H v t -> RelD K H kvs ts -> RelD K H ((k,v) :: kvs) ((kT k,t) :: ts)
inductive RelF (K : Fr0) (H : Hp) : List (Str × V) -> List (Str × T) -> Prop
 | nil : RelF K H [] []
 | cons {k : Str} {v : V} {t : T} {kvs : List (Str × V)} {ts : List (Str × T)} : Rel K H v t -> RelF K H kvs ts -> RelF K H ((k,v) :: kvs) ((k,t) :: ts)
mutual
def bT : T -> Option NestedKey
 | .non => some .none
 | .bl b => some (.num (if b = true then 1 else 0))
 | .int i => some (.num i)
 | .str x => some (.text x)
 | .tup ts => (iI ts).map NestedKey.tup
 | _ => none
def iI : List T -> Option (List NestedKey)
 | [] => some []
 | t :: ts => match bT t,iI ts with
  | some k,some ks => some (k :: ks)
  | _,_ => none
end
inductive RelN (K : Fr0) (H : Hp) : List (NestedKey × Addr × V) -> List (T × T) -> Prop
 | nil : RelN K H [] []
 | cons {k : NestedKey} {q : Addr} {v : V} {kt t : T} {raw : List (NestedKey × Addr × V)} {ts : List (T × T)} : Rel K H (.ref q) kt -> bT kt = some k -> k.depth <= 8 -> Rel K H v t -> RelN K H raw ts -> RelN K H ((k,q,v) :: raw) ((kt,t) :: ts)
theorem RelN.stay {K : Fr0} {H H' : Hp} (st : a9 K H H') : ∀ {vs : List (NestedKey × Addr × V)} {ts : List (T × T)},RelN K H vs ts -> RelN K H' vs ts
 | _,_,.nil => .nil
 | _,_,.cons a b c d r => .cons (a.stay st) b c (d.stay st) (RelN.stay st r)
theorem RelD.stay {K : Fr0} {H H' : Hp} (st : a9 K H H') : ∀ {vs : List (Key × V)} {ts : List (T × T)},RelD K H vs ts -> RelD K H' vs ts
 | _,_,.nil => .nil
 | _,_,.cons r t => .cons (r.stay st) (RelD.stay st t)
theorem RelF.stay {K : Fr0} {H H' : Hp} (st : a9 K H H') : ∀ {vs : List (Str × V)} {ts : List (Str × T)},RelF K H vs ts -> RelF K H' vs ts
 | _,_,.nil => .nil
 | _,_,.cons r t => .cons (r.stay st) (RelF.stay st t)
def jy (lg it : Addr) (l t : Int) : List (Key × V):=[(.inr "large",.ref lg),(.inr "items",.ref it),(.inr "left",.int l),(.inr "turn",.int t)]
structure DrawR (H : Hp) (d : Addr) (n : Nat) (lg it : Addr) (l t : Int) (ls is : List Int) : Prop where
 hd : H d = some (.dK (jy lg it l t))
 hlg : H lg = some (.lst (ls.map .int))
 hit : H it = some (.lst (is.map .int))
 ne : lg ≠ it
 lpos : ∀ x ∈ ls,0 <= x
 ipos : ∀ x ∈ is,0 <= x
 ilen : is.length <= 63
 llen : ls.length <= 63
 l0 : 0 <= l
 t0 : 0 <= t
 tn : t <= n
def Hid (H : Hp) (d b : Addr) : Prop:=∃ lg it l t,H d = some (.dK (jy lg it l t)) /\ (b = lg \/ b = it)
variable [Wld]
def iz (K : Fr0) (H : Hp) (a : Addr) : O -> Prop
 | .lst ts => ∃ vs,H a = some (.lst vs) /\ RelL K H vs ts
 | .dic ts => ∃ vs,H a = some (.dK vs) /\ RelD K H vs ts
 | .fdic ob vs ts => H a = some (.frz ob (.dK vs)) /\ RelD K H vs ts
 | .ins C ts => ∃ dx vs,H a = some (.ins C dx vs) /\ RelF K H vs ts
 | .drw n => ∃ lg it l t ls is,DrawR H a n lg it l t ls is
 | .dicN ts => ∃ raw,H a = some (aL Wld.w a raw) /\ RelN K H raw ts
 | .fdicN ob raw ts => H a = some (.frz ob (aL Wld.w a raw)) /\ RelN K H raw ts
def Own (H : Hp) (G : Gp) (a : Addr) : Prop:=(∃ o,G a = some o) \/ ∃ d n,G d = some (.drw n) /\ Hid H d a
structure Step (H : Hp) (G : Gp) (H' : Hp) (G' : Gp) : Prop where
 fr : ∀ a o,H a = some o -> (∀ ps,o ≠ .tbl ps) -> ¬ Own H G a -> H' a = some o /\ ¬ Own H' G' a
 al : ∀ a o,H a = some o -> (∀ ps,o ≠ .tbl ps) -> ∃ o',H' a = some o' /\ ∀ ps,o' ≠ .tbl ps
theorem Step.refl (H : Hp) (G : Gp) : Step H G H G:=⟨fun _ _ h _ n => ⟨h,n⟩,fun _ o h y => ⟨o,h,y⟩⟩
theorem Step.trans {H H1 H2 : Hp} {G G1 G2 : Gp} (a : Step H G H1 G1) (b : Step H1 G1 H2 G2) : Step H G H2 G2 :=
 ⟨fun c o h y n => let ⟨h1,n1⟩:=a.fr c o h y n; b.fr c o h1 y n1,fun c o h y => let ⟨o1,h1,y1⟩:=a.al c o h y; b.al c o1 h1 y1⟩
def ky (K : Fr0) (x : Str) : Option (Addr × Addr):=K.findSome? fun p => match p.2.data with
 | .func fd => if fd.qualname = x then (match fd.code with
  | .ref c => (match K.lookup c with
   | some ⟨_,_,.fields vs,_⟩ => (match (vs[11]? : Option Value) with
    | some (.ref P) => some (c,P)
    | _ => none)
   | _ => none)
  | _ => none) else none
 | _ => none
structure TabsOk (K : Fr0) (H : Hp) : Prop where
 tab : ∀ x ∈ jD,∃ c P,ky K x = some (c,P) /\ LamX.TabS H P (x ++ ".<locals>." ++ "<lambda>")
 inj : ∀ x y c d P,x ∈ jD -> y ∈ jD -> ky K x = some (c,P) -> ky K y = some (d,P) -> x = y
theorem TabsOk.none {K : Fr0} {H : Hp} (h : jD = []) : TabsOk K H:=⟨fun x hx => (by rw [h] at hx; cases hx),fun x y c d P hx => (by rw [h] at hx; cases hx)⟩
theorem TabsOk.step {K : Fr0} {H H' : Hp} (t : TabsOk K H) (k : ∀ b o,H b = some o -> kind o = false -> H' b = some o) : TabsOk K H':=by
 refine ⟨fun x hx => ?_,t.inj⟩
 obtain ⟨c,P,e,ps,h1,h2,h3⟩:=t.tab x hx
 refine ⟨c,P,e,ps,k _ _ h1 rfl,h2,fun pos cv hc => ?_⟩
 obtain ⟨c',e1,e2⟩:=h3 pos cv hc
 exact ⟨c',e1,k _ _ e2 wD⟩
abbrev En:=List (Hp × Gp)
structure HRel (K : Fr0) (en : En) (H : Hp) (G : Gp) : Prop where
 obj : ∀ a o,G a = some o -> iz K H a o
 sep : ∀ d n b,G d = some (.drw n) -> Hid H d b -> G b = none
 one : ∀ d d' n n',G d = some (.drw n) -> G d' = some (.drw n') -> d = d'
 hist : ∀ e ∈ en,Step e.1 e.2 H G
 tabs : TabsOk K H
theorem iz.kind {K : Fr0} {H : Hp} {a : Addr} {o : O} (h : iz K H a o) : ∃ u,H a = some u /\ kind u = true:=by
 cases o with
 | lst ts => obtain ⟨vs,h,_⟩:=h; exact ⟨_,h,rfl⟩
 | dic ts => obtain ⟨vs,h,_⟩:=h; exact ⟨_,h,rfl⟩
 | fdic ob vs ts => obtain ⟨h,_⟩:=h; exact ⟨_,h,rfl⟩
 | ins C ts => obtain ⟨dx,vs,h,_⟩:=h; exact ⟨_,h,rfl⟩
 | drw n => obtain ⟨lg,it,l,t,ls,is,h⟩:=h; exact ⟨_,h.hd,rfl⟩
 | dicN ts => obtain ⟨raw,h,_⟩:=h; exact ⟨_,h,x9⟩
 | fdicN ob raw ts => obtain ⟨h,_⟩:=h; exact ⟨_,h,aef⟩
theorem tF {lg it lg' it' : Addr} {l t l' t' : Int} (h : jy lg it l t = jy lg' it' l' t') : lg = lg' /\ it = it' /\ l = l' /\ t = t':=by
 unfold jy at h
 simp at h
 exact ⟨h.1,h.2.1,h.2.2.1,h.2.2.2⟩
theorem Hid.kind {K : Fr0} {H : Hp} {G : Gp} {d b : Addr} {n : Nat} (g : HRel K en H G) (e : G d = some (.drw n)) (h : Hid H d b) : ∃ vs,H b = some (.lst vs):=by
 obtain ⟨lg,it,l,t,ls,is,r⟩:=g.obj d _ e
 obtain ⟨lg',it',l',t',e',hb⟩:=h
 rw [r.hd] at e'
 obtain ⟨e1,e2,_,_⟩:=tF (HO.dK.inj (Option.some.inj e'))
 subst e1 e2
 rcases hb with rfl | rfl
 . exact ⟨_,r.hlg⟩
 . exact ⟨_,r.hit⟩
theorem HRel.own_kind {K : Fr0} {H : Hp} {G : Gp} {a : Addr} (g : HRel K en H G) (h : Own H G a) : ∃ u,H a = some u /\ kind u = true:=by
 rcases h with ⟨o,e⟩ | ⟨d,n,e,h⟩
 . exact (g.obj a o e).kind
 . obtain ⟨vs,q⟩:=Hid.kind g e h
   exact ⟨_,q,rfl⟩
theorem Step.stay {K : Fr0} {H H' : Hp} {G G' : Gp} (g : HRel K en H G) (s : Step H G H' G') : a9 K H H':=by
 intro p o e h1 h3
 refine (s.fr p o e h3 fun z => ?_).1
 obtain ⟨u,q,h2⟩:=g.own_kind z
 rw [e] at q
 cases q
 rw [h1] at h2
 cases h2
theorem iz.stay {K : Fr0} {H H' : Hp} {a : Addr} {o : O} (st : a9 K H H') (hd : ∀ n,o ≠ .drw n) (e : H' a = H a) (h : iz K H a o) : iz K H' a o:=by
 cases o with
 | lst ts => obtain ⟨vs,h,r⟩:=h; exact ⟨vs,e.trans h,r.stay st⟩
 | dic ts => obtain ⟨vs,h,r⟩:=h; exact ⟨vs,e.trans h,r.stay st⟩
 | fdic ob vs ts => obtain ⟨h,r⟩:=h; exact ⟨e.trans h,r.stay st⟩
 | ins C ts => obtain ⟨dx,vs,h,r⟩:=h; exact ⟨dx,vs,e.trans h,r.stay st⟩
 | drw n => exact absurd rfl (hd n)
 | dicN ts => obtain ⟨raw,h,r⟩:=h; exact ⟨raw,e.trans h,r.stay st⟩
 | fdicN ob raw ts => obtain ⟨h,r⟩:=h; exact ⟨e.trans h,r.stay st⟩
theorem HRel.upd {K : Fr0} {H : Hp} {G : Gp} {a : Addr} {ho : HO} {o : O} (g : HRel K en H G) (ha : H a = none \/ ∃ u,G a = some u /\ ∀ n,u ≠ .drw n) (hd : ∀ n,o ≠ .drw n) (new : iz K (L2.upd H a ho) a o) :
    HRel K en (L2.upd H a ho) (gup G a o) /\ Step H G (L2.upd H a ho) (gup G a o) /\ a9 K H (L2.upd H a ho):=by
 have hgn : ∀ n,G a ≠ some (.drw n):=by
  intro n z
  rcases ha with e | ⟨u,e,q⟩
  . obtain ⟨_,_,_,_,_,_,r⟩:=g.obj a _ z
    rw [r.hd] at e; cases e
  . rw [z] at e; exact q n (Option.some.inj e).symm
 have hnb : ∀ d n b,G d = some (.drw n) -> Hid H d b -> b ≠ a:=by
  intro d n b e h z
  subst z
  rcases ha with e1 | ⟨u,e1,q⟩
  . obtain ⟨vs,e2⟩:=Hid.kind g e h
    rw [e1] at e2; cases e2
  . rw [g.sep d n b e h] at e1; cases e1
 have hda : ∀ d n,G d = some (.drw n) -> d ≠ a:=fun d n e z => hgn n (z ▸ e)
 have hidE : ∀ d n b,G d = some (.drw n) -> (Hid (L2.upd H a ho) d b ↔ Hid H d b):=by
  intro d n b e
  unfold Hid
  rw [upd_ne (hda d n e)]
 have gdr : ∀ d n,gup G a o d = some (.drw n) ↔ G d = some (.drw n):=by
  intro d n
  by_cases h : d = a
  . subst h
    rw [aH]
    exact ⟨fun z => absurd (Option.some.inj z) (hd n),fun z => absurd z (hgn n)⟩
  . rw [ao h]
 have ownE : ∀ b,b ≠ a -> (Own (L2.upd H a ho) (gup G a o) b ↔ Own H G b):=by
  intro b hb
  unfold Own
  rw [ao hb]
  constructor
  . rintro (z | ⟨d,n,e,h⟩)
    . exact .inl z
    . exact .inr ⟨d,n,(gdr d n).mp e,(hidE d n b ((gdr d n).mp e)).mp h⟩
  . rintro (z | ⟨d,n,e,h⟩)
    . exact .inl z
    . exact .inr ⟨d,n,(gdr d n).mpr e,(hidE d n b e).mpr h⟩
 have keepF : ∀ p u,H p = some u -> kind u = false -> L2.upd H a ho p = some u:=by
  intro p u e h1
  rw [upd_ne ?_]
  . exact e
  . intro z
    subst z
    rcases ha with e1 | ⟨u1,e1,q⟩
    . rw [e1] at e; cases e
    . obtain ⟨u2,q,h2⟩:=(g.obj p u1 e1).kind
      rw [e] at q
      cases q
      rw [h1] at h2
      cases h2
 have st : a9 K H (L2.upd H a ho):=fun p u e h1 _ => keepF p u e h1
 have stp : Step H G (L2.upd H a ho) (gup G a o):=by
  refine ⟨fun b u e _ no => ?_,fun b u e y => ?_⟩
  . have hb : b ≠ a:=by
      intro z
      subst z
      rcases ha with e1 | ⟨u1,e1,_⟩
      . rw [e1] at e; cases e
      . exact no (.inl ⟨u1,e1⟩)
    exact ⟨by rw [upd_ne hb]; exact e,fun z => no ((ownE b hb).mp z)⟩
  . by_cases hb : b = a
    . subst hb
      refine ⟨_,upd_same,fun ps z => ?_⟩
      obtain ⟨u3,q3,k3⟩:=new.kind
      rw [upd_same] at q3
      cases q3
      rw [z] at k3
      cases k3
    . exact ⟨u,by rw [upd_ne hb]; exact e,y⟩
 refine ⟨⟨fun b u e => ?_,fun d n b e h => ?_,fun d d' n n' e e' => g.one d d' n n' ((gdr d n).mp e) ((gdr d' n').mp e'),fun e he => (g.hist e he).trans stp,g.tabs.step keepF⟩,stp,st⟩
 . by_cases hb : b = a
   . subst hb
     rw [aH] at e
     cases e
     exact new
   . rw [ao hb] at e
     by_cases hdr : ∃ n,u = .drw n
     . obtain ⟨n,rfl⟩:=hdr
       obtain ⟨lg,it,l,t,ls,is,r⟩:=g.obj b _ e
       have h1 : lg ≠ a:=hnb b n lg e ⟨lg,it,l,t,r.hd,.inl rfl⟩
       have h2 : it ≠ a:=hnb b n it e ⟨lg,it,l,t,r.hd,.inr rfl⟩
       exact ⟨lg,it,l,t,ls,is,⟨by rw [upd_ne hb]; exact r.hd,by rw [upd_ne h1]; exact r.hlg,by rw [upd_ne h2]; exact r.hit,r.ne,r.lpos,r.ipos,r.ilen,r.llen,r.l0,r.t0,r.tn⟩⟩
     . exact (g.obj b u e).stay st (fun n z => hdr ⟨n,z⟩) (upd_ne hb)
 . have e':=(gdr d n).mp e
   have h':=(hidE d n b e').mp h
   rw [ao (hnb d n b e' h')]
   exact g.sep d n b e' h'
theorem HRel.laid {K : Fr0} {H : Hp} {G : Gp} {a : Addr} {ho : HO} (g : HRel K en H G) (ha : H a = none) : HRel K en (L2.upd H a ho) G /\ Step H G (L2.upd H a ho) G /\ a9 K H (L2.upd H a ho):=by
 have ne : ∀ b u,H b = some u -> b ≠ a:=fun b u e z => by rw [z,ha] at e; cases e
 have gne : ∀ b u,G b = some u -> b ≠ a:=fun b u e => by
  obtain ⟨u,q,_⟩:=(g.obj b u e).kind
  exact ne b _ q
 have hidE : ∀ d n b,G d = some (.drw n) -> (Hid (L2.upd H a ho) d b ↔ Hid H d b):=by
  intro d n b e
  unfold Hid
  rw [upd_ne (gne d _ e)]
 have st : a9 K H (L2.upd H a ho):=fun p o h _ _ => by rw [upd_ne (ne _ _ h)]; exact h
 have stp : Step H G (L2.upd H a ho) G:=by
  refine ⟨fun b u e _ no => ⟨by rw [upd_ne (ne b u e)]; exact e,fun z => no ?_⟩,fun b u e y => ⟨u,by rw [upd_ne (ne b u e)]; exact e,y⟩⟩
  rcases z with z | ⟨d,n,e',h⟩
  . exact .inl z
  . exact .inr ⟨d,n,e',(hidE d n b e').mp h⟩
 refine ⟨⟨fun b u e => ?_,fun d n b e h => g.sep d n b e ((hidE d n b e).mp h),g.one,fun e he => (g.hist e he).trans stp,g.tabs.step fun b o e _ => by rw [upd_ne (ne b o e)]; exact e⟩,stp,st⟩
 . by_cases hdr : ∃ n,u = .drw n
   . obtain ⟨n,rfl⟩:=hdr
     obtain ⟨lg,it,l,t,ls,is,r⟩:=g.obj b _ e
     exact ⟨lg,it,l,t,ls,is,⟨by rw [upd_ne (gne b _ e)]; exact r.hd,by rw [upd_ne (ne _ _ r.hlg)]; exact r.hlg,by rw [upd_ne (ne _ _ r.hit)]; exact r.hit,r.ne,r.lpos,r.ipos,r.ilen,r.llen,r.l0,r.t0,r.tn⟩⟩
   . exact (g.obj b u e).stay st (fun n z => hdr ⟨n,z⟩) (upd_ne (gne b _ e))
theorem fc {K : Fr0} {H : Hp} {G : Gp} {a : Addr} {ho : HO} {u : O} (g : HRel K en H G) (e : G a = some u) (hn : ∀ n,u ≠ .drw n) : a9 K H (L2.upd H a ho):=by
 intro p u' e' h1 _
 rw [upd_ne ?_]
 . exact e'
 . intro z
   subst z
   obtain ⟨u2,q,h2⟩:=(g.obj p u e).kind
   rw [e'] at q
   cases q
   rw [h1] at h2
   cases h2
def Sub (G G' : Gp) : Prop:=∀ a o,G a = some o -> G' a = some o
theorem Sub.refl (G : Gp) : Sub G G:=fun _ _ h => h
theorem Step.sub {H H' : Hp} {G G' G2 : Gp} (t : Step H G H' G') (s : Sub G2 G') : Step H G H' G2 :=
 ⟨fun a o e y n => let ⟨h1,h2⟩:=t.fr a o e y n; ⟨h1,fun z => h2 (z.imp (fun ⟨o,q⟩ => ⟨o,s _ _ q⟩) fun ⟨d,n,q,h⟩ => ⟨d,n,s _ _ q,h⟩)⟩,t.al⟩
theorem HRel.sub {K : Fr0} {H : Hp} {G G' : Gp} (g : HRel K en H G') (s : Sub G G') : HRel K en H G:=by
 refine ⟨fun a o e => g.obj a o (s a o e),fun d n b e h => ?_,fun d d' n n' e e' => g.one d d' n n' (s _ _ e) (s _ _ e'),fun e he => (g.hist e he).sub s,g.tabs⟩
 cases q : G b with
 | none => rfl
 | some o =>
  have:=g.sep d n b (s _ _ e) h
  rw [s _ _ q] at this; cases this
theorem HRel.fresh {K : Fr0} {H : Hp} {G : Gp} {a : Addr} (g : HRel K en H G) (h : H a = none) : G a = none:=by
 cases q : G a with
 | none => rfl
 | some o =>
  obtain ⟨u,e,_⟩:=(g.obj a o q).kind
  rw [h] at e
  cases e
theorem HRel.nil {K : Fr0} {en : En} {H : Hp} {G : Gp} (g : HRel K en H G) : HRel K [] H G:=⟨g.obj,g.sep,g.one,fun e he => (by cases he),g.tabs⟩
theorem HRel.back {K : Fr0} {en : En} {H H' : Hp} {G G' : Gp} (g : HRel K en H G) (g' : HRel K [] H' G') (s : Step H G H' G') : HRel K en H' G':=⟨g'.obj,g'.sep,g'.one,fun e he => (g.hist e he).trans s,g'.tabs⟩
theorem HRel.enter {K : Fr0} {en : En} {H : Hp} {G : Gp} (g : HRel K en H G) : HRel K [(H,G)] H G:=⟨g.obj,g.sep,g.one,fun e he => (by rw [List.mem_singleton.mp he]; exact Step.refl H G),g.tabs⟩
abbrev S2:=List (Option T)
structure SRel (K : Fr0) (H : Hp) (σ : L2.St) (S : S2) : Prop where
 len : σ.length = S.length
 at_ : ∀ (i : Nat) (t : T),S[i]? = some (some t) -> ∃ v,σ[i]? = some (some v) /\ Rel K H v t
theorem SRel.stay {K : Fr0} {H H' : Hp} {σ : L2.St} {S : S2} (r : SRel K H σ S) (st : a9 K H H') : SRel K H' σ S :=
 ⟨r.len,fun i t e => let ⟨v,h,q⟩:=r.at_ i t e; ⟨v,h,q.stay st⟩⟩
theorem SRel.set {K : Fr0} {H : Hp} {σ : L2.St} {S : S2} {v : V} {t : T} (r : SRel K H σ S) (h : Rel K H v t) (i : Nat) : SRel K H (σ.set i (some v)) (S.set i (some t)):=by
 refine ⟨by simp [r.len],fun j u e => ?_⟩
 by_cases hj : i = j
 . subst hj
   by_cases hl : i < S.length
   . rw [List.getElem?_set_self hl] at e
     cases e
     exact ⟨v,List.getElem?_set_self (by rw [r.len]; exact hl),h⟩
   . rw [List.getElem?_eq_none (by simpa using hl)] at e
     cases e
 . rw [List.getElem?_set_ne hj] at e
   rw [List.getElem?_set_ne hj]
   exact r.at_ j u e
def bY (S : S2) : List Nat -> S2
 | [] => S
 | v :: vs => (bY S vs).set v none
theorem SRel.wipe {K : Fr0} {H : Hp} {σ : L2.St} {S : S2} (r : SRel K H σ S) : ∀ vs,SRel K H (L2.wipe σ vs) (bY S vs)
 | [] => r
 | v :: vs => by
  have ih:=SRel.wipe r vs
  refine ⟨by unfold L2.wipe bY; simp [ih.len],fun j u e => ?_⟩
  unfold bY at e
  unfold L2.wipe
  by_cases hj : v = j
  . subst hj
    by_cases hl : v < (bY S vs).length
    . rw [List.getElem?_set_self hl] at e; cases e
    . rw [List.getElem?_eq_none (by simpa using hl)] at e; cases e
  . rw [List.getElem?_set_ne hj] at e
    rw [List.getElem?_set_ne hj]
    exact ih.at_ j u e
theorem SRel.weak {K : Fr0} {H : Hp} {σ : L2.St} {S S' : S2} (r : SRel K H σ S) (hl : S'.length = S.length) (h : ∀ (i : Nat) (t : T),S'[i]? = some (some t) -> S[i]? = some (some t)) : SRel K H σ S' :=
 ⟨r.len.trans hl.symm,fun i t e => r.at_ i t (h i t e)⟩
abbrev QT:=T -> Gp -> Prop
abbrev LE:=S2 -> Gp -> QT -> Prop
abbrev LT:=S2 -> Gp -> (Bool -> Gp -> Prop) -> Prop
abbrev LA:=S2 -> Gp -> (List T -> Gp -> Prop) -> Prop
abbrev bj:=T -> T -> Gp -> QT -> Prop
abbrev zH:=T -> Gp -> QT -> Prop
abbrev cw:=List T -> Gp -> QT -> Prop
abbrev f6:=T -> List T -> Gp -> QT -> Prop
def low (K : Fr0) (en : En) (le : LE) : TE:=fun σ H Q => ∃ S G Φ,SRel K H σ S /\ HRel K en H G /\ le S G Φ /\ ∀ t G' v H',Φ t G' -> Rel K H' v t -> HRel K en H' G' -> Step H G H' G' -> Q v H'
def gC (K : Fr0) (en : En) (le : LT) : TT:=fun σ H Q => ∃ S G Φ,SRel K H σ S /\ HRel K en H G /\ le S G Φ /\ ∀ b G' H',Φ b G' -> HRel K en H' G' -> Step H G H' G' -> Q b H'
def uA (K : Fr0) (en : En) (le : LA) : TA:=fun σ H Q => ∃ S G Φ,SRel K H σ S /\ HRel K en H G /\ le S G Φ /\ ∀ ts G' vs H',Φ ts G' -> RelL K H' vs ts -> HRel K en H' G' -> Step H G H' G' -> Q vs H'
def bG (K : Fr0) (en : En) (r : bj) : R2:=fun x y H Q => ∃ t u G Φ,Rel K H x t /\ Rel K H y u /\ HRel K en H G /\ r t u G Φ /\ ∀ t G' v H',Φ t G' -> Rel K H' v t -> HRel K en H' G' -> Step H G H' G' -> Q v H'
def dz (K : Fr0) (en : En) (r : cw) : List V -> Hp -> VK -> Prop:=fun xs H Q => ∃ ts G Φ,RelL K H xs ts /\ HRel K en H G /\ r ts G Φ /\ ∀ t G' v H',Φ t G' -> Rel K H' v t -> HRel K en H' G' -> Step H G H' G' -> Q v H'
def pG (K : Fr0) (en : En) (r : f6) : V -> List V -> Hp -> VK -> Prop:=fun x xs H Q => ∃ t ts G Φ,Rel K H x t /\ RelL K H xs ts /\ HRel K en H G /\ r t ts G Φ /\ ∀ t G' v H',Φ t G' -> Rel K H' v t -> HRel K en H' G' -> Step H G H' G' -> Q v H'
structure LEnds where
 nx : S2 -> Gp -> Prop
 rt : QT
 bk : S2 -> Gp -> Prop:=fun _ _ => False
 ct : S2 -> Gp -> Prop:=fun _ _ => False
abbrev LS:=LEnds -> S2 -> Gp -> Prop
structure EndsOk (K : Fr0) (en : En) (H : Hp) (G : Gp) (L : LEnds) (D : Ends) : Prop where
 nx : ∀ S' G' σ' H',L.nx S' G' -> SRel K H' σ' S' -> HRel K en H' G' -> Step H G H' G' -> D.nx σ' H'
 rt : ∀ t G' v H',L.rt t G' -> Rel K H' v t -> HRel K en H' G' -> Step H G H' G' -> D.rt v H'
 bk : ∀ S' G' σ' H',L.bk S' G' -> SRel K H' σ' S' -> HRel K en H' G' -> Step H G H' G' -> D.bk σ' H'
 ct : ∀ S' G' σ' H',L.ct S' G' -> SRel K H' σ' S' -> HRel K en H' G' -> Step H G H' G' -> D.ct σ' H'
theorem EndsOk.step {K : Fr0} {H H1 : Hp} {G G1 : Gp} {L : LEnds} {D : Ends} (e : EndsOk K en H G L D) (s : Step H G H1 G1) : EndsOk K en H1 G1 L D :=
 ⟨fun S G σ H a b c d => e.nx S G σ H a b c (s.trans d),fun S G σ H a b c d => e.rt S G σ H a b c (s.trans d),fun S G σ H a b c d => e.bk S G σ H a b c (s.trans d),fun S G σ H a b c d => e.ct S G σ H a b c (s.trans d)⟩
def xm (K : Fr0) (en : En) (ls : LS) : TS:=fun D σ H => ∃ S G L,SRel K H σ S /\ HRel K en H G /\ ls L S G /\ EndsOk K en H G L D
def E (en : En) (X : Cx) (e : Expr) (l : LE) : Prop:=PE X e (low X.K en l)
def Et (en : En) (X : Cx) (e : Expr) (l : LT) : Prop:=PT X e (gC X.K en l)
def Ew (en : En) (X : Cx) (e : Expr) (l : LT) : Prop:=PW X e (gC X.K en l)
def Ea (en : En) (X : Cx) (es : List Expr) (l : LA) : Prop:=PA X es (uA X.K en l)
def Es (en : En) (X : Cx) (s : Stmt) (l : LS) : Prop:=PS X s (xm X.K en l)
def dj (en : En) (X : Cx) (s : List Stmt) (l : LS) : Prop:=PSs X s (xm X.K en l)
section
variable {X : Cx} {e : Expr} {es : List Expr} {s : Stmt} {ss : List Stmt}
theorem PE.weak {t t' : TE} (h : PE X e t) (w : ∀ σ H Q,t' σ H Q -> t σ H Q) : PE X e t':=⟨fun pins s σ H Q I q => h.run pins s σ H Q I (w σ H Q q)⟩
theorem PT.weak {t t' : TT} (h : PT X e t) (w : ∀ σ H Q,t' σ H Q -> t σ H Q) : PT X e t':=⟨fun pins s σ H Q I q => h.run pins s σ H Q I (w σ H Q q)⟩
theorem PW.weak {t t' : TT} (h : PW X e t) (w : ∀ σ H Q,t' σ H Q -> t σ H Q) : PW X e t':=⟨fun wh pins s σ H Q I q => h.run wh pins s σ H Q I (w σ H Q q)⟩
theorem PA.weak {t t' : TA} (h : PA X es t) (w : ∀ σ H Q,t' σ H Q -> t σ H Q) : PA X es t':=⟨fun pos pins s σ H Q I q => h.run pos pins s σ H Q I (w σ H Q q)⟩
theorem PS.weak {t t' : TS} (h : PS X s t) (w : ∀ D σ H,t' D σ H -> t D σ H) : PS X s t':=⟨fun pins s σ H D I q => h.run pins s σ H D I (w D σ H q)⟩
theorem PSs.weak {t t' : TS} (h : PSs X ss t) (w : ∀ D σ H,t' D σ H -> t D σ H) : PSs X ss t':=⟨fun pins s σ H D I q => h.run pins s σ H D I (w D σ H q)⟩
end
end Dv
noncomputable section
namespace Dv
open PySem PySem.Spec PyProof.Rows L2
variable [Dv.Wld]
section
variable {X : Cx} {pins : List (Addr × Obj)} {σ : L2.St} {H : Hp} {s : Shared} {a : Addr} {A : Around} {E : Value -> Shared -> Prop}
theorem ad9 (I : Inv X pins σ H s) (n : Nat) : (∀ (t : T),sizeOf t < n -> ∀ (v : V) (k : NestedKey) (u : Value),Rel X.K H v t -> bT t = some k -> RelV v u -> NestedIs s.heap k u) /\
 (∀ (ts : List T),sizeOf ts < n -> ∀ (vs : List V) (ks : List NestedKey) (us : List Value),RelL X.K H vs ts -> iI ts = some ks -> Vals vs us -> NestedAll s.heap ks us):=by
 induction n with
 | zero => exact ⟨fun t h => absurd h (Nat.not_lt_zero _),fun ts h => absurd h (Nat.not_lt_zero _)⟩
 | succ n ih =>
  refine ⟨fun t hn v k u r e rv => ?_,fun ts hn vs ks us r e rv => ?_⟩
  . cases t with
    | non => cases r; rw [bT] at e; cases e; cases rv; exact .none
    | bl b => cases r; rw [bT] at e; cases e; cases rv; exact .bool rfl
    | int i => cases r; rw [bT] at e; cases e; obtain ⟨t,rfl⟩:=rv; exact .int _ _
    | str x => cases r; rw [bT] at e; cases e; obtain ⟨t,rfl⟩:=rv; exact .text _ _
    | tup ts =>
     cases r with
     | tup hs rs =>
      obtain ⟨its,vs,⟨o,h1,h2,m,h3⟩,_⟩:=I.tuple hs
      rw [bT,Option.map_eq_some_iff] at e
      obtain ⟨ks,e1,rfl⟩:=e
      obtain rfl : u = Value.ref _:=rv
      refine .tup h1 h2 h3 (ih.2 ts ?_ _ _ _ rs e1 (by simpa using vs))
      simp only [T.tup.sizeOf_spec] at hn
      omega
    | _ => rw [bT] at e <;> first | cases e | (intro _ z; cases z) | (intro z; cases z)
  . cases ts with
    | nil => cases r; rw [iI] at e; cases e; cases rv; exact .nil
    | cons t ts =>
     cases r with
     | cons r1 r2 =>
      cases rv with
      | cons q1 q2 =>
       rw [iI] at e
       simp only [List.cons.sizeOf_spec] at hn
       split at e
       . rename_i k ks' e1 e2
         cases e
         exact .cons (ih.1 t (by omega) _ _ _ r1 e1 q1) (ih.2 ts (by omega) _ _ _ r2 e2 q2)
       . cases e
theorem hX (I : Inv X pins σ H s) {t : T} {v : V} {k : NestedKey} {u : Value} (r : Rel X.K H v t) (e : bT t = some k) (rv : RelV v u) : NestedIs s.heap k u:=(ad9 I (sizeOf t + 1)).1 t (Nat.lt_succ_self _) _ _ _ r e rv
abbrev bA:=List (NestedKey × Addr × V)
def KN (raw : bA) (xs : List (NestedKey × Addr × Value)) : Prop:=Paired (fun (p : NestedKey × Addr × V) (x : NestedKey × Addr × Value) => p.1 = x.1 /\ p.2.1 = x.2.1 /\ RelV p.2.2 x.2.2) raw xs
def jB (h : Heap) (raw : bA) : Prop:=∀ p ∈ raw,NestedIs h p.1 (.ref p.2.1) /\ p.1.depth <= 8
theorem jM (I : Inv X pins σ H s) : ∀ {raw : bA} {ts : List (T × T)},RelN X.K H raw ts -> jB s.heap raw
 | _,_,.nil,p,hp => by cases hp
 | _,_,.cons a b c d r,p,hp => by
  rcases List.mem_cons.mp hp with rfl | hp
  . exact ⟨hX I a b rfl,c⟩
  . exact jM I r p hp
theorem lN (I : Inv X pins σ H s) {raw : bA} (e : Rd H a (aL X.w a raw)) (hk : jB s.heap raw) : raw.length <= sizeLine /\ (a == sysModules) = false /\ ∃ xs,KN raw xs /\ s.heap.DictOfH (nestedKind X.prog X.w) a xs:=by
 obtain ⟨⟨⟨h1,h2⟩,o,es,ep,xs,h3,h4,h5,h6,h7,h8⟩,_⟩:=(show ObjOk X.prog X.w H s.heap a (aL X.w a raw) from e.ok I.hok)
 refine ⟨h1,h2,xs,h8,o,es,ep,h3,h4,h5,h6,fun x hx => ?_,h7⟩
 have all : ∀ {l : bA} {m : List (NestedKey × Addr × Value)},KN l m -> jB s.heap l -> ∀ x ∈ m,(nestedKind X.prog X.w).is s.heap x.1 x.2.1:=by
  intro l m q
  induction q with
  | nil => intro _ x hx; exact nomatch hx
  | @cons p q ps qs hq t ih =>
   intro hk x hx
   rcases List.mem_cons.mp hx with e | hx
   . subst e
     have:=hk p (by simp)
     rw [hq.1,hq.2.1] at this
     exact this
   . exact ih (fun y hy => hk y (by simp [hy])) x hx
 exact all h8 hk x hx
def valN (raw : bA) (k : NestedKey) : Option V:=(raw.find? fun p => decide (p.1 = k)).map (·.2.2)
theorem KN.val {raw : bA} {xs : List (NestedKey × Addr × Value)} (r : KN raw xs) (k : NestedKey) : RelO (valN raw k) ((atKey xs k).map (·.2)):=by
 induction r with
 | nil => exact trivial
 | @cons p q ps qs h t ih =>
  obtain ⟨h1,h2,h3⟩:=h
  unfold valN atKey at *
  by_cases e : p.1 = k
  . have e2 : q.1 = k:=h1 ▸ e
    simp only [List.find?_cons,e,e2,decide_true,Option.map_some]
    exact h3
  . have e2 : ¬ q.1 = k:=h1 ▸ e
    simp only [List.find?_cons,e,e2,decide_false]
    exact ih
def putN (raw : bA) (k : NestedKey) (q : Addr) (v : V) : bA :=
 if (valN raw k).isSome then raw.map fun p => if p.1 = k then (p.1,p.2.1,v) else p else raw ++ [(k,q,v)]
theorem KN.put {raw : bA} {xs : List (NestedKey × Addr × Value)} (r : KN raw xs) (k : NestedKey) {q : Addr} {v : V} {u : Value} (rv : RelV v u) : KN (putN raw k q v) (storedH xs k q u):=by
 have e:=(r.val k).isSome_eq
 rw [Option.isSome_map] at e
 unfold putN storedH
 rw [e]
 split
 . clear e
   rename_i hx
   clear hx
   induction r with
   | nil => exact .nil
   | @cons p q ps qs h t ih =>
    rw [List.map_cons,List.map_cons]
    refine .cons ?_ ih
    obtain ⟨h1,h2,h3⟩:=h
    unfold putAt
    by_cases e : p.1 = k
    . rw [if_pos e,if_pos (h1 ▸ e)]; exact ⟨h1,h2,rv⟩
    . rw [if_neg e,if_neg (fun z => e (h1.trans z))]; exact ⟨h1,h2,h3⟩
 . exact Paired.snoc r ⟨rfl,rfl,rv⟩
theorem aep {raw : bA} {k : NestedKey} {q : Addr} {v : V} : (putN raw k q v).length <= raw.length + 1:=by
 unfold putN
 split
 . rw [List.length_map]; omega
 . simp
theorem aew {raw : bA} {k : NestedKey} {q : Addr} {v : V} {Q : Value -> Shared -> Prop} (hu : A.units + 9 < cLine) (I : Inv X pins σ H s) (e : Rd H a (aL X.w a raw)) (hk : jB s.heap raw) (hq : NestedIs s.heap k (.ref q) /\ k.depth <= 8) (hv : valN raw k = some v)
 (h : ∀ w' s',Inv X pins σ H s' -> RelV v w' -> Q w' s') : wpAny (model X.prog X.w) A (getItem (.ref a) (.ref q)) Q E s:=by
 obtain ⟨z,hd,xs,rel,dd⟩:=lN I e hk
 obtain ⟨w',hw,rw'⟩:=RelO.some_of (v:=v) (o:=(atKey xs k).map (·.2)) (by rw [<- hv]; exact rel.val k)
 obtain ⟨p,hp,hp2⟩:=Option.map_eq_some_iff.mp hw
 refine wpAny_getItem_heap (knd:=nestedKind X.prog X.w) (show A.in1.units + 8 < cLine from ?_) hq dd hp ?_
 . show A.units + 1 + 8 < cLine
   omega
 rw [hp2]
 exact h w' _ (I.tok _) rw'
theorem aaD {raw : bA} {k : NestedKey} {q : Addr} {Q : Value -> Shared -> Prop} (hu : A.units + 9 < cLine) (I : Inv X pins σ H s) (e : Rd H a (aL X.w a raw)) (hk : jB s.heap raw) (hq : NestedIs s.heap k (.ref q) /\ k.depth <= 8)
 (h : ∀ s',Inv X pins σ H s' -> Q (.bool (valN raw k).isSome) s') : wpAny (model X.prog X.w) A (compareOp .In (.ref q) (.ref a)) Q E s:=by
 obtain ⟨z,hd,xs,rel,dd⟩:=lN I e hk
 refine wpAny_in_heap (knd:=nestedKind X.prog X.w) (show A.in1.units + 8 < cLine from (by show A.units + 1 + 8 < cLine; omega)) hq hd dd ?_
 have q:=(rel.val k).isSome_eq
 rw [Option.isSome_map] at q
 rw [<- q]
 exact h _ (I.tok _)
theorem aah {raw : bA} {k : NestedKey} {q : Addr} {Q : Value -> Shared -> Prop} (hu : A.units + 9 < cLine) (I : Inv X pins σ H s) (e : Rd H a (aL X.w a raw)) (hk : jB s.heap raw) (hq : NestedIs s.heap k (.ref q) /\ k.depth <= 8)
 (h : ∀ s',Inv X pins σ H s' -> Q (.bool (!(valN raw k).isSome)) s') : wpAny (model X.prog X.w) A (compareOp .NotIn (.ref q) (.ref a)) Q E s:=by
 obtain ⟨z,hd,xs,rel,dd⟩:=lN I e hk
 refine wpAny_notIn_heap (knd:=nestedKind X.prog X.w) (show A.in1.units + 8 < cLine from (by show A.units + 1 + 8 < cLine; omega)) hq hd dd ?_
 have q:=(rel.val k).isSome_eq
 rw [Option.isSome_map] at q
 rw [<- q]
 exact h _ (I.tok _)
theorem yC {h : Heap} {raw : bA} {xs : List (NestedKey × Addr × Value)} (z : raw.length <= sizeLine) (hd : (a == sysModules) = false) (rel : KN raw xs) (dd : h.DictOfH (nestedKind X.prog X.w) a xs) : ObjOk X.prog X.w H h a (aL X.w a raw):=by
 obtain ⟨o,es,ep,h1,h2,h3,h4,_,h5⟩:=dd
 refine ⟨⟨⟨z,hd⟩,o,es,ep,xs,h1,h2,h3,h4,h5,rel⟩,⟨o,h1⟩,fun g1 g2 ⟨z',o',es',ep',xs',q1,q⟩ st => ⟨z',o',es',ep',xs',st o' q1,q⟩⟩
theorem abl {raw : bA} {k : NestedKey} {q : Addr} {v : V} {r : Value} {Q : Unit -> Shared -> Prop} (hu : A.units + 9 < cLine) (I : Inv X pins σ H s) (e : H a = some (aL X.w a raw)) (hk : jB s.heap raw) (hq : NestedIs s.heap k (.ref q) /\ k.depth <= 8)
 (hl : raw.length < sizeLine) (rv : RelV v r) (h : ∀ s',Inv X pins σ (upd H a (aL X.w a (putN raw k q v))) s' -> Q () s') : wpAny (model X.prog X.w) A (setItem (.ref a) (.ref q) r) Q E s:=by
 obtain ⟨z,hd,xs,rel,dd⟩:=lN I (.inl e) hk
 have hz : xs.length <= sizeLine:=by rw [<- Paired.length rel]; exact z
 have hl : (putN raw k q v).length <= sizeLine:=by have:=aep (raw:=raw) (k:=k) (q:=q) (v:=v); omega
 refine wpAny_setItem_heap (knd:=nestedKind X.prog X.w) (hsz:=hz) (show A.in1.units + 8 < cLine from (by show A.units + 1 + 8 < cLine; omega)) hq dd fun h' dd' hs => h _ ?_
 have he : ∃ q,h'.get? a = some q:=let ⟨q,_,_,hq,_⟩:=dd'; ⟨q,hq⟩
 exact d_write I (by rw [e]; exact True.intro) hs he (yC hl hd (rel.put k rv) dd')
theorem qK (I : Inv X pins σ H s) (e : H a = some (.dK [])) : (a == sysModules) = false /\ s.heap.DictOfH (nestedKind X.prog X.w) a []:=by
 obtain ⟨z,hd,vs,rel,dd⟩:=dk_of I.hok e
 cases rel
 obtain ⟨o,es,ep,h1,h2,h3,_,h4,_⟩:=dd
 have h5 : es.toList = []:=by
  generalize es.toList = l at h4
  cases h4
  rfl
 exact ⟨hd,o,es,ep,h1,h2,h3,by rw [h5]; rfl,fun x hx => (by cases hx),.nil⟩
theorem aaG {k : NestedKey} {q : Addr} {v : V} {r : Value} {Q : Unit -> Shared -> Prop} (hu : A.units + 9 < cLine) (I : Inv X pins σ H s) (e : H a = some (.dK [])) (hq : NestedIs s.heap k (.ref q) /\ k.depth <= 8)
 (rv : RelV v r) (h : ∀ s',Inv X pins σ (upd H a (aL X.w a [(k,q,v)])) s' -> Q () s') : wpAny (model X.prog X.w) A (setItem (.ref a) (.ref q) r) Q E s:=by
 obtain ⟨hd,dd⟩:=qK I e
 refine wpAny_setItem_heap (knd:=nestedKind X.prog X.w) (hsz:=Nat.zero_le _) (show A.in1.units + 8 < cLine from (by show A.units + 1 + 8 < cLine; omega)) hq dd fun h' dd' hs => h _ ?_
 have he : ∃ q,h'.get? a = some q:=let ⟨q,_,_,hq,_⟩:=dd'; ⟨q,hq⟩
 exact d_write I (by rw [e]; exact True.intro) hs he (yC (by rw [sizeLine_eq]; show 1 <= 16777216; decide) hd (KN.put (raw:=[]) .nil k rv) dd')
theorem aeZ {k : NestedKey} {q : Addr} {Q : Value -> Shared -> Prop} (hu : A.units + 9 < cLine) (I : Inv X pins σ H s) (e : H a = some (.dK [])) (hq : NestedIs s.heap k (.ref q) /\ k.depth <= 8)
 (h : ∀ s',Inv X pins σ H s' -> Q (.bool false) s') : wpAny (model X.prog X.w) A (compareOp .In (.ref q) (.ref a)) Q E s:=by
 obtain ⟨hd,dd⟩:=qK I e
 exact wpAny_in_heap (knd:=nestedKind X.prog X.w) (show A.in1.units + 8 < cLine from (by show A.units + 1 + 8 < cLine; omega)) hq hd dd (h _ (I.tok _))
theorem adg {k : NestedKey} {q : Addr} {Q : Value -> Shared -> Prop} (hu : A.units + 9 < cLine) (I : Inv X pins σ H s) (e : H a = some (.dK [])) (hq : NestedIs s.heap k (.ref q) /\ k.depth <= 8)
 (h : ∀ s',Inv X pins σ H s' -> Q (.bool true) s') : wpAny (model X.prog X.w) A (compareOp .NotIn (.ref q) (.ref a)) Q E s:=by
 obtain ⟨hd,dd⟩:=qK I e
 exact wpAny_notIn_heap (knd:=nestedKind X.prog X.w) (show A.in1.units + 8 < cLine from (by show A.units + 1 + 8 < cLine; omega)) hq hd dd (h _ (I.tok _))
theorem tO (I : Inv X pins σ H s) {o : Obj} {raw : bA} (h : H a = some (.frz o (aL X.w a raw))) :
 (a == sysModules) = false /\ s.heap.get? a = some o /\ o.ExactDict /\ ∃ (es : Array DictEntry) (ep : Nat),o.data = .dict es ep /\ es.size = raw.length /\
     ∀ (i : Nat) (p : NestedKey × Addr × V),raw[i]? = some p -> ∃ en : DictEntry,es[i]? = some en /\ en.key = .ref p.2.1:=by
 obtain ⟨hd,⟨⟨z,hs⟩,o',es,ep,xs,ho,hx,hdt,he,hn,rel⟩,_⟩:=I.hok a _ h
 rw [hd] at ho
 cases ho
 refine ⟨hs,hd,hx,es,ep,hdt,?_,fun i p e => ?_⟩
 . have l1 : es.size = xs.length:=by rw [<- Array.length_toList,he,List.length_map]
   have l2 : raw.length = xs.length:=Paired.length rel
   omega
 . obtain ⟨b,hb,e1,e2,_⟩:=paired_get rel e
   have q : es.toList[i]? = (xs.map (fun x => (⟨x.1.hash X.w,.ref x.2.1,x.2.2⟩ : DictEntry)))[i]?:=by rw [he]
   rw [List.getElem?_map,hb,Array.getElem?_toList] at q
   exact ⟨_,q,by rw [e2]⟩
def Itn (w : World) (d : Addr) (o : Obj) (raw : bA) : It :=
 ⟨fun i H => H d = some (.frz o (aL w d raw)) /\ i < raw.length,fun i H x H' => H' = H /\ ∃ p : NestedKey × Addr × V,raw[i]? = some p /\ x = .ref p.2.1,fun i H => H d = some (.frz o (aL w d raw)) /\ raw.length <= i⟩
theorem ad5 {P : Program} {w : World} {K : PySem.W.Frag} {tg : Expr} {d : Addr} {o : Obj} {es : Array DictEntry} {ep : Nat} {raw : bA} (it : Addr) (hod : o.data = .dict es ep) : Turn P w K tg (Itn w d o raw) [it] it (fun i h => h.IsKeyIter it d i raw.length ep) where
 mem:=by simp
 obj:=fun i h st b hb => by
  have e : b = it:=by simpa using hb
  subst e
  obtain ⟨oi,e,c,dd⟩:=st
  exact ⟨oi,e,fun v z => by rw [dd] at z; cases z⟩
 keep:=fun i h h' st k => st.at fun oi e => k it (by simp) oi e
 item:=by
  intro X hP hw hK hc i pins s σ H E I hf st hg
  subst hP hw hK
  obtain ⟨hd,hi⟩:=hg
  obtain ⟨f0,f1,f2,f3,f4,f5⟩:=hf it (by simp)
  obtain ⟨hs,hgd,hx,es',ep',hdt,hsz,ent⟩:=tO I hd
  obtain ⟨rfl,rfl⟩:=dict_ep hod hdt
  obtain ⟨p,hkv⟩ : ∃ p,raw[i]? = some p:=⟨raw[i],List.getElem?_eq_getElem hi⟩
  obtain ⟨en,hen,hkey⟩:=ent i p hkv
  refine next_key_item st hgd hdt hsz hen fun h' st' sb => ?_
  have I1 : Inv X pins σ H { s with heap:=h' }:=I.turned (t':=s.toks) (fun b ob hb e => (sb.2 b hb).trans e) f0 f1 f3 f4 f5
  obtain ⟨oi,e,c,dd⟩:=id st'
  exact ⟨en.key,rfl,go_of (s:={ s with heap:=h' }) e c dd (by decide) ⟨.ref p.2.1,H,I1,hkey,⟨rfl,p,hkv,rfl⟩,st',fun b hb => (hf b hb).1⟩⟩
 done:=by
  intro X hP hw hK hc i pins s σ H E I hf st hg
  subst hP hw hK
  obtain ⟨hd,hi⟩:=hg
  obtain ⟨f0,f1,f2,f3,f4,f5⟩:=hf it (by simp)
  obtain ⟨hs,hgd,hx,es',ep',hdt,hsz,ent⟩:=tO I hd
  obtain ⟨rfl,rfl⟩:=dict_ep hod hdt
  exact next_key_end (I.ok.hd hc) st hgd hdt hsz hi fun h' eb => ⟨rfl,I.turned (t':=s.toks) (fun b ob hb e => eb b ob hb e) f0 f1 f3 f4 f5⟩
 self:=fun A i s Q E st h => by
  refine wpAny_pyIter_slot st.typeIs F.slot_dict_keyiterator_iter (wpAny_call_entry F.slot_dict_keyiterator_iter st.typeIs F.entry_dict_keyiterator_iter ?_ (F.args_dict_keyiterator_iter_1 _))
  show wpAny _ _ (ret (.ref it)) _ _ s
  exact wpAny_pure ⟨_,rfl,"dict_keyiterator",_,st.typeIs,F.slot_dict_keyiterator_next.lookup,h⟩
end
def bF : List (T × T) -> NestedKey -> Option T
 | [],_ => none
 | (kt,v) :: r,k => if bT kt = some k then some v else bF r k
def kZ (ts : List (T × T)) (k : NestedKey) (kt t : T) : List (T × T) :=
 if (bF ts k).isSome then ts.map fun p => if bT p.1 = some k then (p.1,t) else p else ts ++ [(kt,t)]
theorem RelN.look {K : Fr0} {H : Hp} {k : NestedKey} : ∀ {raw : bA} {ts : List (T × T)},RelN K H raw ts -> (bF ts k = none /\ valN raw k = none) \/ ∃ t v,bF ts k = some t /\ valN raw k = some v /\ Rel K H v t
 | _,_,.nil => .inl ⟨rfl,rfl⟩
 | _, _, .cons (k := j) (q := q) (v := v) (kt := kt) (t := t) (raw := r) (ts := ts) a b c d rs => by
  by_cases e : j = k
  . subst e
    exact .inr ⟨t,v,by simp [bF,b],by simp [valN],d⟩
  . have e' : ¬ bT kt = some k:=fun z => e (by rw [b] at z; exact Option.some.inj z)
    rcases RelN.look (k:=k) rs with ⟨h1,h2⟩ | ⟨t',v',h1,h2,h3⟩
    . exact .inl ⟨by simp [bF,e',h1],by simpa [valN,e] using h2⟩
    . exact .inr ⟨t',v',by simp [bF,e',h1],by simpa [valN,e] using h2,h3⟩
theorem RelN.length {K : Fr0} {H : Hp} : ∀ {raw : bA} {ts : List (T × T)},RelN K H raw ts -> raw.length = ts.length
 | _,_,.nil => rfl
 | _,_,.cons _ _ _ _ r => by rw [List.length_cons,List.length_cons,RelN.length r]
theorem RelN.app {K : Fr0} {H : Hp} {r2 : bA} {t2 : List (T × T)} (h : RelN K H r2 t2) : ∀ {raw : bA} {ts : List (T × T)},RelN K H raw ts -> RelN K H (raw ++ r2) (ts ++ t2)
 | _,_,.nil => h
 | _,_,.cons a b c d r => .cons a b c d (RelN.app h r)
theorem RelN.repl {K : Fr0} {H : Hp} {k : NestedKey} {v : V} {t : T} (hv : Rel K H v t) : ∀ {raw : bA} {ts : List (T × T)},RelN K H raw ts -> RelN K H (raw.map fun p => if p.1 = k then (p.1,p.2.1,v) else p) (ts.map fun p => if bT p.1 = some k then (p.1,t) else p)
 | _,_,.nil => .nil
 | _, _, .cons (k := j) (kt := kt) a b c d r => by
  rw [List.map_cons,List.map_cons]
  by_cases e : j = k
  . subst e
    simp only [b,if_true]
    exact .cons a b c hv (RelN.repl hv r)
  . have e' : ¬ bT kt = some k:=fun z => e (by rw [b] at z; exact Option.some.inj z)
    simp only [e,e',if_false]
    exact .cons a b c d (RelN.repl hv r)
theorem RelN.put {K : Fr0} {H : Hp} {k : NestedKey} {q : Addr} {v : V} {kt t : T} {raw : bA} {ts : List (T × T)} (r : RelN K H raw ts) (hq : Rel K H (.ref q) kt) (hk : bT kt = some k) (hd : k.depth <= 8) (hv : Rel K H v t) : RelN K H (putN raw k q v) (kZ ts k kt t):=by
 unfold putN kZ
 rcases r.look (k:=k) with ⟨h1,h2⟩ | ⟨t',v',h1,h2,h3⟩
 . rw [h1,h2]
   exact RelN.app (.cons hq hk hd hv .nil) r
 . rw [h1,h2]
   exact r.repl hv
theorem RelN.some_eq {K : Fr0} {H : Hp} {raw : bA} {ts : List (T × T)} (r : RelN K H raw ts) (k : NestedKey) : (valN raw k).isSome = (bF ts k).isSome:=by
 rcases r.look (k:=k) with ⟨h1,h2⟩ | ⟨t,v,h1,h2,_⟩ <;> rw [h1,h2] <;> rfl
def eI (F : Gp) (a : Addr) : Option (List (T × T)):=match F a with
 | some (.dicN kvs) => some kvs
 | some (.fdicN _ _ kvs) => some kvs
 | _ => none
def cB : T -> Option NestedKey
 | .tup ts => match bT (.tup ts) with
  | some k => if k.depth <= 8 then some k else none
  | none => none
 | _ => none
theorem mD {K : Fr0} {H : Hp} {v : V} {t : T} {k : NestedKey} (h : cB t = some k) (r : Rel K H v t) : bT t = some k /\ k.depth <= 8 /\ ∃ q,v = .ref q:=by
 cases t with
 | tup ts =>
  simp only [cB] at h
  split at h
  . rename_i k' e
    split at h
    . cases h
      refine ⟨e,by assumption,?_⟩
      cases r
      exact ⟨_,rfl⟩
    . cases h
  . cases h
 | _ => cases h
end Dv
noncomputable section
namespace Dv
open PySem L2
variable [Dv.Wld]
noncomputable instance lmDec : DecidableEq Lm:=fun a b => Classical.propDecidable (a = b)
mutual
noncomputable def T.decEq : (a b : T) -> Decidable (a = b)
 | .non,.non => .isTrue rfl
 | .bl a,.bl b => if h : a = b then .isTrue (h ▸ rfl) else .isFalse fun e => h (T.bl.inj e)
 | .int a,.int b => if h : a = b then .isTrue (h ▸ rfl) else .isFalse fun e => h (T.int.inj e)
 | .str a,.str b => if h : a = b then .isTrue (h ▸ rfl) else .isFalse fun e => h (T.str.inj e)
 | .tup a,.tup b => match T.decEqL a b with
  | .isTrue h => .isTrue (h ▸ rfl)
  | .isFalse h => .isFalse fun e => h (T.tup.inj e)
 | .ref a,.ref b => if h : a = b then .isTrue (h ▸ rfl) else .isFalse fun e => h (T.ref.inj e)
 | .ty a,.ty b => if h : a = b then .isTrue (h ▸ rfl) else .isFalse fun e => h (T.ty.inj e)
 | .ptup a,.ptup b => match T.decEqL a b with
  | .isTrue h => .isTrue (h ▸ rfl)
  | .isFalse h => .isFalse fun e => h (T.ptup.inj e)
 | .exc C n a,.exc C' n' b => if h1 : C = C' then if h2 : n = n' then match T.decEqL a b with
     | .isTrue h => .isTrue (by subst h1 h2 h; rfl)
     | .isFalse h => .isFalse fun e => h (T.exc.inj e).2.2
  else .isFalse fun e => h2 (T.exc.inj e).2.1
  else .isFalse fun e => h1 (T.exc.inj e).1
 | .lam a,.lam b => if h : a = b then .isTrue (h ▸ rfl) else .isFalse fun e => h (T.lam.inj e)
 | .non,.lam _ | .bl _,.lam _ | .int _,.lam _ | .str _,.lam _ | .tup _,.lam _ | .ref _,.lam _ | .ty _,.lam _ | .ptup _,.lam _ | .exc _ _ _,.lam _ => .isFalse fun e => nomatch e
 | .lam _,.non | .lam _,.bl _ | .lam _,.int _ | .lam _,.str _ | .lam _,.tup _ | .lam _,.ref _ | .lam _,.ty _ | .lam _,.ptup _ | .lam _,.exc _ _ _ => .isFalse fun e => nomatch e
 | .non,.exc _ _ _ | .bl _,.exc _ _ _ | .int _,.exc _ _ _ | .str _,.exc _ _ _ | .tup _,.exc _ _ _ | .ref _,.exc _ _ _ | .ty _,.exc _ _ _ | .ptup _,.exc _ _ _ => .isFalse fun e => nomatch e
 | .exc _ _ _,.non | .exc _ _ _,.bl _ | .exc _ _ _,.int _ | .exc _ _ _,.str _ | .exc _ _ _,.tup _ | .exc _ _ _,.ref _ | .exc _ _ _,.ty _ | .exc _ _ _,.ptup _ => .isFalse fun e => nomatch e
 | .non,.ptup _ | .bl _,.ptup _ | .int _,.ptup _ | .str _,.ptup _ | .tup _,.ptup _ | .ref _,.ptup _ | .ty _,.ptup _ => .isFalse fun e => nomatch e
 | .ptup _,.non | .ptup _,.bl _ | .ptup _,.int _ | .ptup _,.str _ | .ptup _,.tup _ | .ptup _,.ref _ | .ptup _,.ty _ => .isFalse fun e => nomatch e
 | .non,.bl _ | .non,.int _ | .non,.str _ | .non,.tup _ | .non,.ref _ | .non,.ty _ => .isFalse fun e => nomatch e
 | .bl _,.non | .bl _,.int _ | .bl _,.str _ | .bl _,.tup _ | .bl _,.ref _ | .bl _,.ty _ => .isFalse fun e => nomatch e
 | .int _,.non | .int _,.bl _ | .int _,.str _ | .int _,.tup _ | .int _,.ref _ | .int _,.ty _ => .isFalse fun e => nomatch e
 | .str _,.non | .str _,.bl _ | .str _,.int _ | .str _,.tup _ | .str _,.ref _ | .str _,.ty _ => .isFalse fun e => nomatch e
 | .tup _,.non | .tup _,.bl _ | .tup _,.int _ | .tup _,.str _ | .tup _,.ref _ | .tup _,.ty _ => .isFalse fun e => nomatch e
 | .ref _,.non | .ref _,.bl _ | .ref _,.int _ | .ref _,.str _ | .ref _,.tup _ | .ref _,.ty _ => .isFalse fun e => nomatch e
 | .ty _,.non | .ty _,.bl _ | .ty _,.int _ | .ty _,.str _ | .ty _,.tup _ | .ty _,.ref _ => .isFalse fun e => nomatch e
noncomputable def T.decEqL : (a b : List T) -> Decidable (a = b)
 | [],[] => .isTrue rfl
 | a :: as,b :: bs => match T.decEq a b,T.decEqL as bs with
  | .isTrue h,.isTrue h' => .isTrue (h ▸ h' ▸ rfl)
  | .isFalse h,_ => .isFalse fun e => h (List.cons.inj e).1
  | _,.isFalse h => .isFalse fun e => h (List.cons.inj e).2
 | [],_ :: _ => .isFalse fun e => nomatch e
 | _ :: _,[] => .isFalse fun e => nomatch e
end
noncomputable instance : DecidableEq T:=T.decEq
mutual
inductive Dat (G : Gp) : T -> PyData -> Prop
 | non : Dat G .non .none
 | bl (b : Bool) : Dat G (.bl b) (.bool b)
 | int (i : Int) : Dat G (.int i) (.int i)
 | str (x : Str) : Dat G (.str x) (.str x)
 | tup {ts : List T} {ds : List PyData} : DatL G ts ds -> Dat G (.tup ts) (.tuple ds)
 | lst {a : Addr} {ts : List T} {ds : List PyData} : G a = some (.lst ts) -> DatL G ts ds -> Dat G (.ref a) (.list ds)
inductive DatL (G : Gp) : List T -> List PyData -> Prop
 | nil : DatL G [] []
 | cons {t : T} {d : PyData} {ts : List T} {ds : List PyData} : Dat G t d -> DatL G ts ds -> DatL G (t :: ts) (d :: ds)
end
mutual
theorem Dat.dp {K : Fr0} {H : Hp} {G : Gp} (g : HRel K en H G) : ∀ {d : PyData} {t : T} {v : V},Dat G t d -> Rel K H v t -> Dp K H v d
 | .none,_,_,.non,.non => .non
 | .bool _,_,_,.bl _,.bl _ => .bl _
 | .int _,_,_,.int _,.int _ => .int _
 | .str _,_,_,.str _,.str _ => .str _
 | .tuple _,_,_,.tup h,.tup hs r => .tup hs (DatL.dp g h r)
 | .list ds,_,_,.lst hg h,r0 => by
  cases r0
  obtain ⟨vs,e,r⟩:=g.obj _ _ hg
  exact .lst (SqL.of e) (DatL.dp g h r)
theorem DatL.dp {K : Fr0} {H : Hp} {G : Gp} (g : HRel K en H G) : ∀ {ds : List PyData} {ts : List T} {vs : List V},DatL G ts ds -> RelL K H vs ts -> DpAll K H vs ds
 | [],_,_,.nil,.nil => .nil
 | _ :: _,_,_,.cons h hs,.cons r rs => .cons (Dat.dp g h r) (DatL.dp g hs rs)
end
section
variable {X : Cx} {a b c : Expr} {es : List Expr} {la lb lc : LE} {pos : Pos}
def sl : S2 -> Nat -> Option T
 | [],_ => none
 | x :: _,0 => x
 | _ :: r,i + 1 => sl r i
theorem x7 : ∀ {S : S2} {i : Nat} {t : T},sl S i = some t -> S[i]? = some (some t)
 | [],_,_,h => by simp [sl] at h
 | x :: _,0,t,h => by
  have h : x = some t:=h
  subst h
  rfl
 | _ :: r,i + 1,t,h => by
  have h : sl r i = some t:=h
  simpa using x7 h
def cr (i : Nat) : LE:=fun S G Φ => match sl S i with
 | some t => Φ t G
 | none => False
def lC (t : T) : LE:=fun _ G Φ => Φ t G
theorem aa (i : Nat) {x : Str} {pos : Pos} (hN : X.N[i]? = some x:=by rfl) (hv : Vis X.env.scope x:=by first | exact Or.inl rfl | exact Or.inr (Or.inl rfl) | exact Or.inr (Or.inr rfl)) (hd : (x == ("__debug__" : Str)) = false:=by decide)
 (hcd : (x == ("__classdict__" : Str)) = false:=by decide) : E en X (.Name x pos) (cr i):=by
 refine PE.weak (pe_var hN hv hd hcd) fun σ H Q ⟨S,G,Φ,s,g,q,k⟩ => ?_
 unfold cr at q
 split at q
 . rename_i t e
   obtain ⟨v,h1,h2⟩:=s.at_ i t (x7 e)
   exact ⟨v,h1,k t G v H q h2 g (Step.refl H G)⟩
 . exact q.elim
theorem nM {v : V} {t : T} {e : Expr} (h : PE X e (tC v)) (r : ∀ H,Rel X.K H v t) : E en X e (lC t) :=
 PE.weak h fun σ H Q ⟨S,G,Φ,s,g,q,k⟩ => k t G v H q (r H) g (Step.refl H G)
theorem cG {i : Int} {j : Nat} : E en X (.Constant (.int i) j pos) (lC (.int i)):=nM pe_int fun _ => .int _
theorem aaw {i : Bool} {j : Nat} : E en X (.Constant (.bool i) j pos) (lC (.bl i)):=nM pe_bl fun _ => .bl _
theorem abf {j : Nat} : E en X (.Constant .none j pos) (lC .non):=nM pe_non fun _ => .non
theorem bQ {i : Str} {j : Nat} : E en X (.Constant (.str i) j pos) (lC (.str i)):=nM pe_str fun _ => .str _
def fe : LA:=fun _ G Φ => Φ [] G
def dD (la : LE) (lr : LA) : LA:=fun S G Φ => la S G fun t G1 => lr S G1 fun ts G2 => Φ (t :: ts) G2
theorem ea_nil : Ea en X [] fe:=PA.weak pa_nil fun σ H Q ⟨S,G,Φ,s,g,q,k⟩ => k [] G [] H q .nil g (Step.refl H G)
theorem ea_cons {lr : LA} (h : E en X a la) (hr : Ea en X es lr) (hs : starEach (a :: es) X.env = (false,eval a X.env) :: starEach es X.env:=by rfl) : Ea en X (a :: es) (dD la lr):=by
 refine PA.weak (pa_cons h hr hs) fun σ H Q ⟨S,G,Φ,s,g,q,k⟩ => ?_
 refine ⟨S,G,_,s,g,q,fun t G1 v H1 q1 r1 g1 s1 => ?_⟩
 refine ⟨S,G1,_,s.stay (s1.stay g),g1,q1,fun ts G2 vs H2 q2 r2 g2 s2 => ?_⟩
 exact k (t :: ts) G2 (v :: vs) H2 q2 (.cons (r1.stay (s2.stay g1)) r2) g2 (s1.trans s2)
def mG (l : LA) : LE:=fun S G Φ => l S G fun ts G1 => ts.length <= sizeLine /\ Φ (.tup ts) G1
def jO (ts : List T) : Gp -> QT -> Prop:=fun G Φ => ts.length <= sizeLine /\ ∀ p,G p = none -> Φ (.ref p) (gup G p (.lst ts))
def lO (l : LA) : LE:=fun S G Φ => l S G fun ts G1 => jO ts G1 Φ
theorem tup_laid {K : Fr0} {H : Hp} {G : Gp} {p : Addr} {vs : List V} {ts : List T} (g : HRel K en H G) (hp : H p = none) (r : RelL K H vs ts) : Rel K (L2.upd H p (.tup vs)) (.ref p) (.tup ts) /\ HRel K en (L2.upd H p (.tup vs)) G /\ Step H G (L2.upd H p (.tup vs)) G:=by
 obtain ⟨g1,s1,st⟩:=g.laid (ho:=.tup vs) hp
 exact ⟨.tup (SqT.of upd_same) (r.stay st),g1,s1⟩
theorem dJ {K : Fr0} {H : Hp} {G : Gp} {p : Addr} {vs : List V} {ts : List T} (g : HRel K en H G) (hp : H p = none) (r : RelL K H vs ts) : HRel K en (L2.upd H p (.lst vs)) (gup G p (.lst ts)) /\ Step H G (L2.upd H p (.lst vs)) (gup G p (.lst ts)):=by
 have hp' : ∀ ho,a9 K H (L2.upd H p ho):=fun ho => (g.laid (ho:=ho) hp).2.2
 obtain ⟨g1,s1,st⟩:=g.upd (a:=p) (ho:=.lst vs) (o:=.lst ts) (.inl hp) (fun n z => by cases z) ⟨vs,upd_same,r.stay (hp' _)⟩
 exact ⟨g1,s1⟩
theorem eJ {l : LA} {k : Nat} (h : Ea en X es l) : E en X (.Tuple es k pos) (mG l):=by
 refine PE.weak (pe_tup h) fun σ H Q ⟨S,G,Φ,s,g,q,k⟩ => ?_
 refine ⟨S,G,_,s,g,q,fun ts G1 vs H1 q1 r1 g1 s1 => ⟨by rw [r1.length]; exact q1.1,fun p hp => ?_⟩⟩
 obtain ⟨r2,g2,s2⟩:=tup_laid g1 hp r1
 exact k _ _ _ _ q1.2 r2 g2 (s1.trans s2)
theorem kJ {l : LA} (h : Ea en X es l) : E en X (.List es pos) (lO l):=by
 refine PE.weak (pe_lst h) fun σ H Q ⟨S,G,Φ,s,g,q,k⟩ => ?_
 refine ⟨S,G,_,s,g,q,fun ts G1 vs H1 q1 r1 g1 s1 => ⟨by rw [r1.length]; exact q1.1,fun p hp => ?_⟩⟩
 obtain ⟨g2,s2⟩:=dJ g1 hp r1
 exact k _ _ _ _ (q1.2 p (g1.fresh hp)) (.ref p) g2 (s1.trans s2)
def ed (r : bj) (la lb : LE) : LE:=fun S G Φ => la S G fun t G1 => lb S G1 fun u G2 => r t u G2 Φ
def sj (r : zH) (la : LE) : LE:=fun S G Φ => la S G fun t G1 => r t G1 Φ
def cq (r : cw) (l : LA) : LE:=fun S G Φ => l S G fun ts G1 => r ts G1 Φ
theorem OpR.weak {f : Value -> Value -> Sem Value} {r r' : R2} (h : OpR X f r) (w : ∀ x y H Q,r' x y H Q -> r x y H Q) : OpR X f r':=fun pins s σ H x y v u Q I rx ry q => h pins s σ H x y v u Q I rx ry (w x y H Q q)
theorem OpR.or {f : Value -> Value -> Sem Value} {r r' : R2} (h : OpR X f r) (h' : OpR X f r') : OpR X f (fun x y H Q => r x y H Q \/ r' x y H Q):=fun pins s σ H x y v u Q I rx ry q => q.elim (h pins s σ H x y v u Q I rx ry) (h' pins s σ H x y v u Q I rx ry)
theorem CallR.weak {f : Value} {r r' : List V -> Hp -> VK -> Prop} (h : CallR X f r) (w : ∀ xs H Q,r' xs H Q -> r xs H Q) : CallR X f r':=fun pins s σ H xs us Q I rx q => h pins s σ H xs us Q I rx (w xs H Q q)
theorem CallR.or {f : Value} {r r' : List V -> Hp -> VK -> Prop} (h : CallR X f r) (h' : CallR X f r') : CallR X f (fun xs H Q => r xs H Q \/ r' xs H Q):=fun pins s σ H xs us Q I rx q => q.elim (h pins s σ H xs us Q I rx) (h' pins s σ H xs us Q I rx)
theorem mR {K : Fr0} {r : bj} {σ : L2.St} {H : Hp} {Q : VK} (h : low K en (ed r la lb) σ H Q) : tOp (bG K en r) (low K en la) (low K en lb) σ H Q:=by
 obtain ⟨S,G,Φ,s,g,q,k⟩:=h
 refine ⟨S,G,_,s,g,q,fun t G1 v H1 q1 r1 g1 s1 => ?_⟩
 refine ⟨S,G1,_,s.stay (s1.stay g),g1,q1,fun u G2 w H2 q2 r2 g2 s2 => ?_⟩
 exact ⟨t,u,G2,Φ,r1.stay (s2.stay g1),r2,g2,q2,fun t' G' v' H' a b c d => k t' G' v' H' a b c ((s1.trans s2).trans d)⟩
theorem bZ {op : Operator} {r : bj} (ho : OpR X (binaryOp op) (bG X.K en r)) (ha : E en X a la) (hb : E en X b lb) : E en X (.BinOp a op b pos) (ed r la lb) :=
 PE.weak (pe_op ho ha hb) fun σ H Q h => mR h
theorem fL {op : CmpOp} {r : bj} (ho : OpR X (compareOp op) (bG X.K en r)) (ha : E en X a la) (hb : E en X b lb) (hm : behindInMarks op b = false:=by first | exact nomark _ | rfl) : E en X (.Compare a [op] [b] pos) (ed r la lb) :=
 PE.weak (pe_cmpR ho ha hb hm) fun σ H Q h => mR h
def lB (l : LE) : LT:=fun S G Φ => l S G fun t G1 => match t with
 | .bl b => Φ b G1
 | _ => False
theorem u5 {K : Fr0} {te : TE} {l : LE} (h : ∀ σ H Q,low K en l σ H Q -> te σ H Q) : ∀ σ H Q,gC K en (lB l) σ H Q -> tTest te σ H Q:=fun σ H Q ⟨S,G,Φ,s,g,q,k⟩ => by
 refine h σ H _ ⟨S,G,_,s,g,q,fun t G1 v H1 q1 r1 g1 s1 => ?_⟩
 cases r1 with
 | bl b => exact ⟨b,rfl,k b G1 H1 q1 g1 s1⟩
 | _ => exact q1.elim
theorem aT {op : CmpOp} {r : bj} (ho : OpR X (compareOp op) (bG X.K en r)) (ha : E en X a la) (hb : E en X b lb) (hm : behindInMarks op b = false:=by first | exact nomark _ | rfl) : Et en X (.Compare a [op] [b] pos) (lB (ed r la lb)) :=
 PT.weak (pt_cmpR ho ha hb hm) (u5 fun σ H Q h => mR h)
theorem yX (h : E en X a la) (he : ∀ whole,isTrue a X.env whole = (do let v <- whole; standAt a.pos; holding [v] (truthy v)):=by intro _; rfl) : Et en X a (lB la) :=
 PT.weak (pt_val h he) (u5 fun σ H Q h => h)
def tU (t u : LT) : LT:=fun S G Φ => t S G fun c G1 => if c = true then u S G1 Φ else Φ false G1
def qI (t u : LT) : LT:=fun S G Φ => t S G fun c G1 => if c = true then Φ true G1 else u S G1 Φ
def uL (t : LT) : LT:=fun S G Φ => t S G fun c G1 => Φ (!c) G1
variable {tl ul : LT} {rest : List Expr}
theorem zv (h : Et en X a tl) : Ew en X (.BoolOp .And [a] pos) tl:=pw_and1 h
theorem aap (h : Et en X a tl) : Ew en X (.BoolOp .Or [a] pos) tl:=pw_or1 h
theorem wB (h : Et en X a tl) (hb : Ew en X (.BoolOp .And (b :: rest) pos) ul) : Ew en X (.BoolOp .And (a :: b :: rest) pos) (tU tl ul):=by
 refine PW.weak (pw_and h hb) fun σ H Q ⟨S,G,Φ,s,g,q,k⟩ => ?_
 refine ⟨S,G,_,s,g,q,fun c G1 H1 q1 g1 s1 => ?_⟩
 cases c with
 | true =>
  rw [if_pos rfl] at q1 ⊢
  exact ⟨S,G1,Φ,s.stay (s1.stay g),g1,q1,fun c G2 H2 q2 g2 s2 => k c G2 H2 q2 g2 (s1.trans s2)⟩
 | false =>
  rw [if_neg Bool.false_ne_true] at q1 ⊢
  exact k false G1 H1 q1 g1 s1
theorem acU (h : Et en X a tl) (hb : Ew en X (.BoolOp .Or (b :: rest) pos) ul) : Ew en X (.BoolOp .Or (a :: b :: rest) pos) (qI tl ul):=by
 refine PW.weak (pw_or h hb) fun σ H Q ⟨S,G,Φ,s,g,q,k⟩ => ?_
 refine ⟨S,G,_,s,g,q,fun c G1 H1 q1 g1 s1 => ?_⟩
 cases c with
 | true =>
  rw [if_pos rfl] at q1 ⊢
  exact k true G1 H1 q1 g1 s1
 | false =>
  rw [if_neg Bool.false_ne_true] at q1 ⊢
  exact ⟨S,G1,Φ,s.stay (s1.stay g),g1,q1,fun c G2 H2 q2 g2 s2 => k c G2 H2 q2 g2 (s1.trans s2)⟩
theorem yQ (h : Ew en X a tl) : Et en X a tl:=h.pt
theorem et_not (h : Et en X a tl) : Et en X (.UnaryOp .Not a pos) (uL tl) :=
 PT.weak (pt_not h) fun σ H Q ⟨S,G,Φ,s,g,q,k⟩ => ⟨S,G,_,s,g,q,fun c G1 H1 q1 g1 s1 => k (!c) G1 H1 q1 g1 s1⟩
def sZ (la lb : LE) : LE:=fun S G Φ => la S G fun t G1 => match t with
 | .bl c => if c = true then lb S G1 Φ else Φ (.bl false) G1
 | _ => False
def qV (la lb : LE) : LE:=fun S G Φ => la S G fun t G1 => match t with
 | .bl c => if c = true then Φ (.bl true) G1 else lb S G1 Φ
 | _ => False
def pY (la : LE) : LE:=fun S G Φ => la S G fun t G1 => match t with
 | .bl c => Φ (.bl (!c)) G1
 | _ => False
theorem acm {op : BoolOp} (h : E en X a la) : E en X (.BoolOp op [a] pos) la:=pe_one h
theorem aa2 (h : E en X a la) (hb : E en X (.BoolOp .And (b :: rest) pos) lb) : E en X (.BoolOp .And (a :: b :: rest) pos) (sZ la lb):=by
 refine PE.weak (pe_and h hb) fun σ H Q ⟨S,G,Φ,s,g,q,k⟩ => ?_
 refine ⟨S,G,_,s,g,q,fun t G1 v H1 q1 r1 g1 s1 => ?_⟩
 cases r1 with
 | bl c =>
  refine ⟨c,rfl,?_⟩
  cases c with
  | true => exact ⟨S,G1,Φ,s.stay (s1.stay g),g1,q1,fun t G2 v H2 q2 r2 g2 s2 => k t G2 v H2 q2 r2 g2 (s1.trans s2)⟩
  | false => exact k (.bl false) G1 (.bl false) H1 q1 (.bl _) g1 s1
 | _ => exact q1.elim
theorem acu (h : E en X a la) (hb : E en X (.BoolOp .Or (b :: rest) pos) lb) : E en X (.BoolOp .Or (a :: b :: rest) pos) (qV la lb):=by
 refine PE.weak (pe_or h hb) fun σ H Q ⟨S,G,Φ,s,g,q,k⟩ => ?_
 refine ⟨S,G,_,s,g,q,fun t G1 v H1 q1 r1 g1 s1 => ?_⟩
 cases r1 with
 | bl c =>
  refine ⟨c,rfl,?_⟩
  cases c with
  | false => exact ⟨S,G1,Φ,s.stay (s1.stay g),g1,q1,fun t G2 v H2 q2 r2 g2 s2 => k t G2 v H2 q2 r2 g2 (s1.trans s2)⟩
  | true => exact k (.bl true) G1 (.bl true) H1 q1 (.bl _) g1 s1
 | _ => exact q1.elim
theorem aeX (h : E en X a la) : E en X (.UnaryOp .Not a pos) (pY la):=by
 refine PE.weak (pe_not h) fun σ H Q ⟨S,G,Φ,s,g,q,k⟩ => ?_
 refine ⟨S,G,_,s,g,q,fun t G1 v H1 q1 r1 g1 s1 => ?_⟩
 cases r1 with
 | bl c => exact ⟨c,rfl,k _ _ _ _ q1 (.bl _) g1 s1⟩
 | _ => exact q1.elim
def uO (t : LT) (la lb : LE) : LE:=fun S G Φ => t S G fun c G1 => if c = true then la S G1 Φ else lb S G1 Φ
theorem ab4 (h : Et en X c tl) (ha : E en X a la) (hb : E en X b lb) : E en X (.IfExp c a b pos) (uO tl la lb):=by
 refine PE.weak (pe_ifExp h ha hb) fun σ H Q ⟨S,G,Φ,s,g,q,k⟩ => ?_
 refine ⟨S,G,_,s,g,q,fun d G1 H1 q1 g1 s1 => ?_⟩
 cases d with
 | true =>
  rw [if_pos rfl] at q1 ⊢
  exact ⟨S,G1,Φ,s.stay (s1.stay g),g1,q1,fun t G2 v H2 q2 r2 g2 s2 => k t G2 v H2 q2 r2 g2 (s1.trans s2)⟩
 | false =>
  rw [if_neg Bool.false_ne_true] at q1 ⊢
  exact ⟨S,G1,Φ,s.stay (s1.stay g),g1,q1,fun t G2 v H2 q2 r2 g2 s2 => k t G2 v H2 q2 r2 g2 (s1.trans s2)⟩
def iP (r r' : bj) (la lb lc : LE) : LE:=fun S G Φ => la S G fun t G1 => lb S G1 fun u G2 => r t u G2 fun z G3 => match z with
 | .bl true => lc S G3 fun w G4 => r' u w G4 Φ
 | .bl false => Φ (.bl false) G3
 | _ => False
theorem v8 {K : Fr0} {r r' : bj} : ∀ σ H Q,low K en (iP r r' la lb lc) σ H Q -> tChain (bG K en r) (bG K en r') (low K en la) (low K en lb) (low K en lc) σ H Q:=by
 intro σ H Q ⟨S,G,Φ,s,g,q,k⟩
 refine ⟨S,G,_,s,g,q,fun t G1 v H1 q1 r1 g1 s1 => ?_⟩
 refine ⟨S,G1,_,s.stay (s1.stay g),g1,q1,fun u G2 w H2 q2 r2 g2 s2 => ?_⟩
 refine ⟨t,u,G2,_,r1.stay (s2.stay g1),r2,g2,q2,fun z G3 x H3 q3 r3 g3 s3 => ?_⟩
 cases r3 with
 | bl d =>
  refine ⟨d,rfl,?_⟩
  cases d with
  | true =>
   have s12:=(s1.trans s2).trans s3
   refine ⟨S,G3,_,s.stay (s12.stay g),g3,q3,fun w' G4 y H4 q4 r4 g4 s4 => ?_⟩
   exact ⟨u,w',G4,Φ,(r2.stay (s3.stay g2)).stay (s4.stay g3),r4,g4,q4,fun t' G' v' H' a b c d => k t' G' v' H' a b c ((s12.trans s4).trans d)⟩
  | false => exact k _ _ _ _ q3 (.bl false) g3 ((s1.trans s2).trans s3)
 | _ => exact q3.elim
theorem adz {op op' : CmpOp} {r r' : bj} (ho : OpR X (compareOp op) (bG X.K en r)) (ho' : OpR X (compareOp op') (bG X.K en r')) (ha : E en X a la) (hb : E en X b lb) (hc : E en X c lc)
 (hm : lastMarks [op,op'] [b,c] = false:=by with_unfolding_all rfl) : E en X (.Compare a [op,op'] [b,c] pos) (iP r r' la lb lc):=PE.weak (pe_chain ho ho' ha hb hc hm) v8
theorem oV {op op' : CmpOp} {r r' : bj} (ho : OpR X (compareOp op) (bG X.K en r)) (ho' : OpR X (compareOp op') (bG X.K en r')) (ha : E en X a la) (hb : E en X b lb) (hc : E en X c lc)
 (hm : lastMarks [op,op'] [b,c] = false:=by with_unfolding_all rfl) : Et en X (.Compare a [op,op'] [b,c] pos) (lB (iP r r' la lb lc)):=PT.weak (pt_chain ho ho' ha hb hc hm) (u5 v8)
end
end Dv
noncomputable section
namespace Dv
open PySem L2
variable [Dv.Wld]
section
variable {X : Cx}
def jP : bj
 | .int i,.int j,G,Φ => Φ (.int (i + j)) G
 | .str a,.str b,G,Φ => a.length + b.length <= sizeLine /\ Φ (.str (a ++ b)) G
 | .tup xs,.tup ys,G,Φ => xs.length + ys.length <= sizeLine /\ Φ (.tup (xs ++ ys)) G
 | .ref a,.ref b,G,Φ => match G a,G b with
  | some (.lst xs),some (.lst ys) => jO (xs ++ ys) G Φ
  | _,_ => False
 | _,_,_,_ => False
theorem gb : OpR X (binaryOp .Add) (bG X.K en jP):=by
 refine OpR.weak (OpR.or op_add (OpR.or op_add_str (OpR.or op_catA op_cat))) fun x y H Q ⟨t,u,G,Φ,rt,ru,g,q,k⟩ => ?_
 cases rt with
 | int i =>
  cases ru with
  | int j => exact .inl ⟨i,j,rfl,rfl,k _ _ _ _ q (.int _) g (Step.refl H G)⟩
  | _ => exact q.elim
 | str a =>
  cases ru with
  | str b => exact .inr (.inl ⟨a,b,rfl,rfl,q.1,k _ _ _ _ q.2 (.str _) g (Step.refl H G)⟩)
  | _ => exact q.elim
 | tup hs rs =>
  cases ru with
  | tup hs2 rs2 =>
   refine .inr (.inr (.inl ⟨_,_,_,_,rfl,rfl,hs,hs2,by rw [rs.length,rs2.length]; exact q.1,fun e => ?_,fun _ e => ?_,fun _ _ p hp => ?_⟩))
   . subst e
     cases rs
     exact k _ _ _ _ q.2 (.tup hs2 rs2) g (Step.refl H G)
   . subst e
     cases rs2
     refine k _ _ _ _ q.2 (.tup hs ?_) g (Step.refl H G)
     rw [List.append_nil]
     exact rs
   . obtain ⟨r2,g2,s2⟩:=tup_laid g hp (rs.app rs2)
     exact k _ _ _ _ q.2 r2 g2 s2
  | _ => exact q.elim
 | ref a =>
  cases ru with
  | ref b =>
   have q : (match G a,G b with | some (.lst xs),some (.lst ys) => jO (xs ++ ys) G Φ | _,_ => False):=q
   split at q
   . rename_i xs ys e1 e2
     obtain ⟨vs,h1,r1⟩:=g.obj _ _ e1
     obtain ⟨ws,h2,r2⟩:=g.obj _ _ e2
     refine .inr (.inr (.inr ⟨_,_,vs,ws,rfl,rfl,h1,h2,?_,fun p hp => ?_⟩))
     . rw [r1.length,r2.length,<- List.length_append]; exact q.1
     . obtain ⟨g2,s2⟩:=dJ g hp (r1.app r2)
       exact k _ _ _ _ (q.2 p (g.fresh hp)) (.ref p) g2 s2
   . exact q.elim
  | _ => exact q.elim
 | _ => exact q.elim
def jC (C : Int -> Int -> Prop) (f : Int -> Int -> T) : bj
 | .int i,.int j,G,Φ => C i j /\ Φ (f i j) G
 | _,_,_,_ => False
theorem rL {f : Value -> Value -> Sem Value} {C : Int -> Int -> Prop} {h : Int -> Int -> Int} (r : OpR X f (rI C fun i j => .int (h i j))) : OpR X f (bG X.K en (jC C fun i j => .int (h i j))):=by
 refine OpR.weak r fun x y H Q ⟨t,u,G,Φ,rt,ru,g,q,k⟩ => ?_
 cases rt with
 | int i =>
  cases ru with
  | int j => exact ⟨i,j,rfl,rfl,q.1,k _ _ _ _ q.2 (.int _) g (Step.refl H G)⟩
  | _ => exact q.elim
 | _ => exact q.elim
theorem kF : OpR X (binaryOp .Mod) (bG X.K en (jC (fun _ j => 0 < j) fun i j => .int (i % j))):=rL op_mod
theorem zY : OpR X (binaryOp .FloorDiv) (bG X.K en (jC CDiv fun i j => .int (i / j))):=rL op_fdiv
theorem sx : OpR X (binaryOp .Pow) (bG X.K en (jC CPow fun i j => .int (i ^ j.toNat))):=rL op_pow
def pX : bj
 | .int i,.int j,G,Φ => CMul i j /\ Φ (.int (i * j)) G
 | .ref a,.int k,G,Φ => match G a with
  | some (.lst xs) => 0 <= k /\ k <= 1000 /\ jO (List.replicate k.toNat xs).flatten G Φ
  | _ => False
 | _,_,_,_ => False
theorem RelL.rep {K : Fr0} {H : Hp} {vs : List V} {ts : List T} (r : RelL K H vs ts) : ∀ n,RelL K H (List.replicate n vs).flatten (List.replicate n ts).flatten
 | 0 => .nil
 | n + 1 => by
  rw [List.replicate_succ,List.replicate_succ,List.flatten_cons,List.flatten_cons]
  exact r.app (RelL.rep r n)
theorem wi : OpR X (binaryOp .Mult) (bG X.K en pX):=by
 refine OpR.weak (OpR.or op_mul op_rep) fun x y H Q ⟨t,u,G,Φ,rt,ru,g,q,k⟩ => ?_
 cases rt with
 | int i =>
  cases ru with
  | int j => exact .inl ⟨i,j,rfl,rfl,q.1,k _ _ _ _ q.2 (.int _) g (Step.refl H G)⟩
  | _ => exact q.elim
 | ref a =>
  cases ru with
  | int n =>
   have q : (match G a with | some (.lst xs) => 0 <= n /\ n <= 1000 /\ jO (List.replicate n.toNat xs).flatten G Φ | _ => False):=q
   split at q
   . rename_i xs e1
     obtain ⟨vs,h1,r1⟩:=g.obj _ _ e1
     obtain ⟨q0,q1,q2⟩:=q
     have hl : vs.length * n.toNat <= sizeLine:=by
      have:=q2.1
      rw [List.length_flatten,List.map_replicate,List.sum_replicate_nat] at this
      rw [r1.length,Nat.mul_comm]
      exact this
     refine .inr ⟨a,n,vs,rfl,rfl,h1,by omega,by omega,hl,fun p hp => ?_⟩
     obtain ⟨g2,s2⟩:=dJ g hp (r1.rep n.toNat)
     exact k _ _ _ _ (q2.2 p (g.fresh hp)) (.ref p) g2 s2
   . exact q.elim
  | _ => exact q.elim
 | _ => exact q.elim
def dq : T -> T -> Bool
 | .non,.non => true | .non,.int _ => true | .int _,.non => true | .non,.bl _ => true | .bl _,.non => true | .non,.str _ => true | .str _,.non => true
 | .int _,.int _ => true | .bl _,.bl _ => true | .str _,.str _ => true
 | .int _,.str _ => true | .str _,.int _ => true | .bl _,.str _ => true | .str _,.bl _ => true
 | _,_ => false
theorem xM {K : Fr0} {H : Hp} {x y : V} {t u : T} (rt : Rel K H x t) (ru : Rel K H y u) (h : dq t u = true) : scal x y = true /\ decide (x = y) = decide (t = u):=by
 cases rt <;> cases ru <;> first | exact absurd h Bool.false_ne_true | (refine ⟨rfl,?_⟩; simp)
def n5 (neg : Bool) (t u : T) (G : Gp) (Φ : QT) : Prop:=∃ d e,Dat G t d /\ Dat G u e /\ SeqAt.shaped d = true /\ SeqAt.shaped e = true /\ Φ (.bl (if neg then !PyData.eqv d e else PyData.eqv d e)) G
def eqT : bj:=fun t u G Φ => if dq t u = true then Φ (.bl (decide (t = u))) G else n5 false t u G Φ
def neT : bj:=fun t u G Φ => if dq t u = true then Φ (.bl (!decide (t = u))) G else n5 true t u G Φ
theorem dA (hu : X.A.units + 64 < cLine) : OpR X (compareOp .Eq) (bG X.K en eqT):=by
 refine OpR.weak (OpR.or op_eq (op_eqD hu)) fun x y H Q ⟨t,u,G,Φ,rt,ru,g,q,k⟩ => ?_
 unfold eqT at q
 split at q
 . rename_i h
   obtain ⟨h1,h2⟩:=xM rt ru h
   exact .inl ⟨h1,by rw [h2]; exact k _ _ _ _ q (.bl _) g (Step.refl H G)⟩
 . obtain ⟨d,e,h1,h2,h3,h4,q⟩:=q
   exact .inr ⟨d,e,h1.dp g rt,h2.dp g ru,h3,h4,k _ _ _ _ q (.bl _) g (Step.refl H G)⟩
theorem eh (hu : X.A.units + 64 < cLine) : OpR X (compareOp .NotEq) (bG X.K en neT):=by
 refine OpR.weak (OpR.or op_ne (op_neD hu)) fun x y H Q ⟨t,u,G,Φ,rt,ru,g,q,k⟩ => ?_
 unfold neT at q
 split at q
 . rename_i h
   obtain ⟨h1,h2⟩:=xM rt ru h
   exact .inl ⟨h1,by rw [h2]; exact k _ _ _ _ q (.bl _) g (Step.refl H G)⟩
 . obtain ⟨d,e,h1,h2,h3,h4,q⟩:=q
   exact .inr ⟨d,e,h1.dp g rt,h2.dp g ru,h3,h4,k _ _ _ _ q (.bl _) g (Step.refl H G)⟩
def iM (f : Int -> Int -> Bool) (h : Str -> Str -> Bool) : bj
 | .int i,.int j,G,Φ => Φ (.bl (f i j)) G
 | .str a,.str b,G,Φ => Φ (.bl (h a b)) G
 | _,_,_,_ => False
theorem nZ {f : Value -> Value -> Sem Value} {c : Int -> Int -> Bool} {h : Str -> Str -> Bool} (r : OpR X f (rI0 fun i j => .bl (c i j))) (r2 : OpR X f (fun x y H Q => ∃ i j,x = .str i /\ y = .str j /\ Q (.bl (h i j)) H)) : OpR X f (bG X.K en (iM c h)):=by
 refine OpR.weak (OpR.or r r2) fun x y H Q ⟨t,u,G,Φ,rt,ru,g,q,k⟩ => ?_
 cases rt with
 | int i =>
  cases ru with
  | int j => exact .inl ⟨i,j,rfl,rfl,k _ _ _ _ q (.bl _) g (Step.refl H G)⟩
  | _ => exact q.elim
 | str i =>
  cases ru with
  | str j => exact .inr ⟨i,j,rfl,rfl,k _ _ _ _ q (.bl _) g (Step.refl H G)⟩
  | _ => exact q.elim
 | _ => exact q.elim
def nW (a b : Str) : Bool:=decide (a.cps.toList < b.cps.toList)
theorem lW : OpR X (compareOp .Lt) (bG X.K en (iM (fun i j => decide (i < j)) fun a b => nW a b)):=nZ op_lt op_lt_str
theorem ik : OpR X (compareOp .LtE) (bG X.K en (iM (fun i j => decide (i <= j)) fun a b => !nW b a)):=nZ op_le op_le_str
theorem lF : OpR X (compareOp .Gt) (bG X.K en (iM (fun i j => decide (j < i)) fun a b => nW b a)):=nZ op_gt op_gt_str
theorem zF : OpR X (compareOp .GtE) (bG X.K en (iM (fun i j => decide (j <= i)) fun a b => !nW a b)):=nZ op_ge op_ge_str
def aP : List (T × T) -> T -> Option T
 | [],_ => none
 | (k,v) :: r,t => if k = t then some v else aP r t
def bK : T -> Option Key
 | .int i => some (.inl i)
 | .str s => some (.inr s)
 | _ => none
theorem f7 {t : T} {k : Key} (h : bK t = some k) : t = kT k:=by
 cases t <;> simp only [bK,reduceCtorEq,Option.some.injEq] at h <;> subst h <;> rfl
theorem jt {a b : Key} (h : kT a = kT b) : a = b:=by
 cases a <;> cases b <;> simp only [kT,T.int.injEq,T.str.injEq,reduceCtorEq] at h <;> rw [h]
theorem Rel.key {K : Fr0} {H : Hp} {v : V} {k : Key} (h : Rel K H v (kT k)) : v = kV k:=by
 cases k <;> cases h <;> rfl
theorem RelD.look {K : Fr0} {H : Hp} {k : Key} : ∀ {vs : List (Key × V)} {ts : List (T × T)},RelD K H vs ts ->
 (aP ts (kT k) = none /\ valV vs k = none) \/ ∃ t v,aP ts (kT k) = some t /\ valV vs k = some v /\ Rel K H v t
 | _,_,.nil => .inl ⟨rfl,rfl⟩
 | _, _, .cons (k := j) (v := v) (t := t) (kvs := r) (ts := u) h rs => by
  by_cases e : j = k
  . subst e
    refine .inr ⟨t,v,?_,?_,h⟩
    . simp [aP]
    . simp [valV]
  . have e' : ¬ kT j = kT k:=fun z => e (jt z)
    rcases RelD.look (k:=k) rs with ⟨h1,h2⟩ | ⟨t',v',h1,h2,h3⟩
    . refine .inl ⟨?_,?_⟩
      . simp [aP,e',h1]
      . simpa [valV,e] using h2
    . refine .inr ⟨t',v',?_,?_,h3⟩
      . simp [aP,e',h1]
      . simpa [valV,e] using h2
end
section
variable {X : Cx} {a b e o : Expr} {es : List Expr} {la lb : LE} {l : LA} {pos p2 apos cpos : Pos}
theorem yJ {K : Fr0} {H : Hp} {vs : List V} {ts : List T} {i : Int} {t : T} (r : RelL K H vs ts) (h : atI ts i = some t) : ∃ v,atI vs i = some v /\ Rel K H v t:=by
 unfold atI at h ⊢
 rw [r.length]
 cases q : ixN ts.length i with
 | none => rw [q] at h; cases h
 | some j =>
  rw [q] at h
  exact r.get h
def cg : bj
 | .tup xs,.int i,G,Φ => match atI xs i with
  | some t => Φ t G
  | none => False
 | .str z,.int i,G,Φ => z.length <= sizeLine /\ match atI z.cps.toList i with
  | some c => Φ (.str ⟨#[c]⟩) G
  | none => False
 | .ref a,u,G,Φ => match G a with
  | some (.lst xs) => (match u with
   | .int i => (match atI xs i with
    | some t => Φ t G
    | none => False)
   | _ => False)
  | some (.dic kvs) => (match bK u,aP kvs u with
   | some _,some t => Φ t G
   | _,_ => False)
  | some (.fdic _ _ kvs) => (match bK u,aP kvs u with
   | some _,some t => Φ t G
   | _,_ => False)
  | some (.dicN kvs) => (match cB u with
   | some k => (match bF kvs k with
    | some t => Φ t G
    | none => False)
   | none => False)
  | some (.fdicN _ _ kvs) => (match cB u with
   | some k => (match bF kvs k with
    | some t => Φ t G
    | none => False)
   | none => False)
  | _ => False
 | _,_,_,_ => False
def mJ (w : World) (K : Fr0) (H : Hp) (x y : V) (raw : bA) (k : NestedKey) : Prop:=∃ p q ts kt,x = .ref p /\ y = .ref q /\ Rd H p (aL w p raw) /\ RelN K H raw ts /\ Rel K H (.ref q) kt /\ bT kt = some k /\ k.depth <= 8
theorem rS {K : Fr0} {en : En} {H : Hp} {G : Gp} {p : Addr} {v : V} {u : T} {ts : List (T × T)} {k : NestedKey} {w : World} (hw : w = Dv.Wld.w) (g : HRel K en H G) (e : G p = some (.dicN ts)) (ru : Rel K H v u) (hk : cB u = some k) : ∃ raw,mJ w K H (.ref p) v raw k /\ RelN K H raw ts:=by
 obtain ⟨raw,h1,h2⟩:=g.obj _ _ e
 obtain ⟨e1,e2,q,rfl⟩:=mD hk ru
 exact ⟨raw,⟨p,q,ts,u,rfl,rfl,.inl (by rw [hw]; exact h1),h2,ru,e1,e2⟩,h2⟩
theorem sH {K : Fr0} {en : En} {H : Hp} {G : Gp} {p : Addr} {v : V} {u : T} {ob : Obj} {raw : List (NestedKey × Addr × V)} {ts : List (T × T)} {k : NestedKey} {w : World} (hw : w = Dv.Wld.w) (g : HRel K en H G) (e : G p = some (.fdicN ob raw ts)) (ru : Rel K H v u) (hk : cB u = some k) : ∃ raw,mJ w K H (.ref p) v raw k /\ RelN K H raw ts:=by
 obtain ⟨h1,h2⟩:=g.obj _ _ e
 obtain ⟨e1,e2,q,rfl⟩:=mD hk ru
 exact ⟨raw,⟨p,q,ts,u,rfl,rfl,.inr ⟨ob,by rw [hw]; exact h1⟩,h2,ru,e1,e2⟩,h2⟩
def adW (w : World) (K : Fr0) : R2:=fun x y H Q => ∃ raw k v,mJ w K H x y raw k /\ valN raw k = some v /\ Q v H
theorem aaE (hu : X.A.units + 9 < cLine) : IxR X (adW X.w X.K):=by
 intro value slice pins s σ H x y v u Q I rx ry h hs
 obtain ⟨raw,k,w0,⟨p,q,ts,kt,rfl,rfl,h1,h2,h3,h4,h5⟩,hv,qq⟩:=h
 obtain rfl : v = Value.ref p:=rx
 obtain rfl : u = Value.ref q:=ry
 obtain ⟨_,_,xs,_,dd⟩:=lN I h1 (jM I h2)
 exact PyProof.Rows.tail_any dd.typeIs PySem.F.slot_dict_getitem.lookup (aew hu I h1 (jM I h2) ⟨hX I h3 h4 rfl,h5⟩ hv fun w' s' I' r' => ⟨w0,H,I',r',qq⟩) hs
def ab8 : R2:=fun x y H Q => ∃ p k v kvs,x = .ref p /\ y = kV k /\ Rd H p (.dK kvs) /\ valV kvs k = some v /\ Q v H
theorem ae7 (hu : X.A.units + 1 < cLine) : IxR X ab8:=by
 intro value slice pins s σ H x y v u Q I rx ry h hs
 obtain ⟨p,k,w0,kvs,rfl,rfl,hp,hv,q⟩:=h
 obtain rfl : v = Value.ref p:=rx
 have g : DGet H p (kV k) (some w0):=.inl ⟨kvs,k,hp,rfl,hv.symm⟩
 exact PyProof.Rows.tail_any (dict_typeIs I g) PySem.F.slot_dict_getitem.lookup (d_getItem hu I g ry fun w' s' I' r' => ⟨w0,H,I',r',q⟩) hs
theorem IxR.weak {r r' : R2} (h : IxR X r) (w : ∀ x y H Q,r' x y H Q -> r x y H Q) : IxR X r':=fun value slice pins s σ H x y v u Q I rx ry q hs => h value slice pins s σ H x y v u Q I rx ry (w x y H Q q) hs
theorem aa4 (hu : X.A.units + 9 < cLine) (hw : X.w = Dv.Wld.w) : IxR X (bG X.K en cg):=by
 refine IxR.weak ((ix_seq.or (ae7 (by omega))).or (aaE hu)) fun x y H Q ⟨t,u,G,Φ,rt,ru,g,q,k⟩ => ?_
 cases rt with
 | tup hs rs =>
  cases ru with
  | int i =>
   simp only [cg] at q
   split at q
   . rename_i t e
     obtain ⟨v,h1,h2⟩:=yJ rs e
     exact .inl (.inl (.inr (.inl ⟨_,_,i,v,rfl,rfl,hs,h1,k _ _ _ _ q h2 g (Step.refl H G)⟩)))
   . exact q.elim
  | _ => exact q.elim
 | str z =>
  cases ru with
  | int i =>
   simp only [cg] at q
   obtain ⟨hz,q⟩:=q
   split at q
   . rename_i c e
     exact .inl (.inl (.inr (.inr ⟨z,i,c,rfl,rfl,hz,e,k _ _ _ _ q (.str _) g (Step.refl H G)⟩)))
   . exact q.elim
  | _ => exact q.elim
 | ref p =>
  simp only [cg] at q
  split at q
  . rename_i xs e
    cases ru with
    | int i =>
     simp only at q
     split at q
     . rename_i t e2
       obtain ⟨vs,h1,r1⟩:=g.obj _ _ e
       obtain ⟨v,h2,h3⟩:=yJ r1 e2
       exact .inl (.inl (.inl ⟨_,_,i,v,rfl,rfl,SqL.of h1,h2,k _ _ _ _ q h3 g (Step.refl H G)⟩))
     . exact q.elim
    | _ => exact q.elim
  . rename_i kvs e
    split at q
    . rename_i k0 t e1 e2
      obtain ⟨vs,h1,r1⟩:=g.obj _ _ e
      have eu:=f7 e1
      subst eu
      rcases r1.look (k:=k0) with ⟨h2,_⟩ | ⟨t',v,h2,h3,h4⟩
      . rw [h2] at e2; cases e2
      . rw [h2] at e2; cases e2
        exact .inl (.inr ⟨p,k0,v,vs,rfl,ru.key,.inl h1,h3,k _ _ _ _ q h4 g (Step.refl H G)⟩)
    . exact q.elim
  . rename_i ob vs kvs e
    split at q
    . rename_i k0 t e1 e2
      obtain ⟨h1,r1⟩:=g.obj _ _ e
      have eu:=f7 e1
      subst eu
      rcases r1.look (k:=k0) with ⟨h2,_⟩ | ⟨t',v,h2,h3,h4⟩
      . rw [h2] at e2; cases e2
      . rw [h2] at e2; cases e2
        exact .inl (.inr ⟨p,k0,v,vs,rfl,ru.key,.inr ⟨ob,h1⟩,h3,k _ _ _ _ q h4 g (Step.refl H G)⟩)
    . exact q.elim
  . rename_i kvs e
    split at q
    . rename_i k0 ek
      split at q
      . rename_i t e2
        obtain ⟨raw,h1,r1⟩:=rS hw g e ru ek
        rcases r1.look (k:=k0) with ⟨h2,_⟩ | ⟨t',v,h2,h3,h4⟩
        . rw [h2] at e2; cases e2
        . rw [h2] at e2; cases e2
          exact .inr ⟨raw,k0,v,h1,h3,k _ _ _ _ q h4 g (Step.refl H G)⟩
      . exact q.elim
    . exact q.elim
  . rename_i ob raw0 kvs e
    split at q
    . rename_i k0 ek
      split at q
      . rename_i t e2
        obtain ⟨raw,h1,r1⟩:=sH hw g e ru ek
        rcases r1.look (k:=k0) with ⟨h2,_⟩ | ⟨t',v,h2,h3,h4⟩
        . rw [h2] at e2; cases e2
        . rw [h2] at e2; cases e2
          exact .inr ⟨raw,k0,v,h1,h3,k _ _ _ _ q h4 g (Step.refl H G)⟩
      . exact q.elim
    . exact q.elim
  . exact q.elim
 | _ => cases ru <;> exact q.elim
theorem aE (hu : X.A.units + 9 < cLine) (ha : E en X a la) (hb : E en X b lb) (hs : PlainIx b) (hw : X.w = Dv.Wld.w:=by rfl) : E en X (.Subscript a b pos) (ed cg la lb) :=
 PE.weak (pe_ix (aa4 hu hw) ha hb hs) fun σ H Q h => mR h
def cut {α : Type} (xs : List α) (lo hi : Option Int) : List α:=(xs.drop (HT.sIx xs.length 0 lo)).take (HT.sIx xs.length xs.length hi - HT.sIx xs.length 0 lo)
theorem vY {K : Fr0} {H : Hp} {vs : List V} {ts : List T} (r : RelL K H vs ts) (lo hi : Option Int) : RelL K H (cutV vs lo hi) (cut ts lo hi):=by
 unfold cutV cut
 rw [r.length]
 exact (r.drop _).take _
abbrev LO:=S2 -> Gp -> (Option Int -> Gp -> Prop) -> Prop
def aag (K : Fr0) (en : En) (lo : LO) : TO:=fun σ H Q => ∃ S G Φ,SRel K H σ S /\ HRel K en H G /\ lo S G Φ /\ ∀ i G' H',Φ i G' -> HRel K en H' G' -> Step H G H' G' -> Q i H'
def Eo (en : En) (X : Cx) (e : Option Expr) (l : LO) : Prop:=PO X e (aag X.K en l)
def ue : LO:=fun _ G Φ => Φ none G
def vq (la : LE) : LO:=fun S G Φ => la S G fun t G1 => match t with
 | .int i => Φ (some i) G1
 | _ => False
theorem PO.weak {oe : Option Expr} {t t' : TO} (h : PO X oe t) (w : ∀ σ H Q,t' σ H Q -> t σ H Q) : PO X oe t':=⟨fun pins s σ H Q I q => h.run pins s σ H Q I (w σ H Q q)⟩
theorem eo_none : Eo en X none ue:=PO.weak po_none fun σ H Q ⟨S,G,Φ,s,g,q,k⟩ => k none G H q g (Step.refl H G)
theorem eo_some (ha : E en X a la) : Eo en X (some a) (vq la):=PO.weak (po_some ha) fun σ H Q ⟨S,G,Φ,s,g,q,k⟩ => by
 refine ⟨S,G,_,s,g,q,fun t G1 v H1 q1 r1 g1 s1 => ?_⟩
 cases r1 with
 | int i => exact ⟨i,rfl,k (some i) G1 H1 q1 g1 s1⟩
 | _ => exact q1.elim
abbrev RST:=T -> Option Int -> Option Int -> Gp -> QT -> Prop
def rQ : RST
 | .tup xs,lo,hi,G,Φ => Φ (.tup (cut xs lo hi)) G
 | .str z,lo,hi,G,Φ => z.length <= sizeLine /\ Φ (.str (cutS z lo hi)) G
 | .ref a,lo,hi,G,Φ => match G a with
  | some (.lst xs) => ∀ p,G p = none -> Φ (.ref p) (gup G p (.lst (cut xs lo hi)))
  | _ => False
 | _,_,_,_,_ => False
def ub (la : LE) (lo hi : LO) : LE:=fun S G Φ => la S G fun t G1 => lo S G1 fun i G2 => hi S G2 fun j G3 => rQ t i j G3 Φ
theorem acv {α : Type} {xs : List α} {lo hi : Option Int} (h : HT.sIx xs.length 0 lo = 0 /\ HT.sIx xs.length xs.length hi = xs.length) : cut xs lo hi = xs:=by
 unfold cut
 rw [h.1,h.2]
 simp
theorem acM {lo hi : Option Expr} {llo lhi : LO} (ha : E en X a la) (hl : Eo en X lo llo) (hh : Eo en X hi lhi) : E en X (.Subscript a (.Slice lo hi none p2) pos) (ub la llo lhi):=by
 refine PE.weak (pe_slice (SlR.or sl_list (SlR.or sl_tupA sl_str)) ha hl hh) fun σ H Q ⟨S,G,Φ,s,g,q,k⟩ => ?_
 refine ⟨S,G,_,s,g,q,fun t G1 v H1 q1 r1 g1 s1 => ?_⟩
 refine ⟨S,G1,_,s.stay (s1.stay g),g1,q1,fun i G2 H2 q2 g2 s2 => ?_⟩
 refine ⟨S,G2,_,s.stay ((s1.trans s2).stay g),g2,q2,fun j G3 H3 q3 g3 s3 => ?_⟩
 have r3:=r1.stay ((s2.trans s3).stay g1)
 have s13:=(s1.trans s2).trans s3
 cases r3 with
 | tup hs rs =>
  refine .inr (.inl ⟨_,_,rfl,hs,fun hw => ?_,fun _ p hp => ?_⟩)
  . have e:=acv (xs:=_) (lo:=i) (hi:=j) (by rw [<- rs.length]; exact hw)
    have q3 : Φ (.tup (cut _ i j)) G3:=q3
    rw [e] at q3
    exact k _ _ _ _ q3 (.tup hs rs) g3 s13
  . obtain ⟨r4,g4,s4⟩:=tup_laid g3 hp (vY rs i j)
    exact k _ _ _ _ q3 r4 g4 (s13.trans s4)
 | str z => exact .inr (.inr ⟨z,rfl,q3.1,k _ _ _ _ q3.2 (.str _) g3 s13⟩)
 | ref p =>
  simp only [rQ] at q3
  split at q3
  . rename_i xs e
    obtain ⟨vs,h1,r4⟩:=g3.obj _ _ e
    refine .inl ⟨p,vs,rfl,SqL.of h1,fun p' hp => ?_⟩
    obtain ⟨g4,s4⟩:=dJ g3 hp (vY r4 i j)
    exact k _ _ _ _ (q3 p' (g3.fresh hp)) (.ref p') g4 (s13.trans s4)
  . exact q3.elim
 | _ => exact q3.elim
def rR : zH
 | .ref a,G,Φ => match G a with
  | some (.lst xs) => ∀ p,G p = none -> Φ (.ref p) (gup G p (.lst xs.reverse))
  | _ => False
 | _,_,_ => False
theorem abg {k : Nat} {p1 p2 p3 : Pos} (ha : E en X a la) : E en X (.Subscript a (.Slice none none (some (.UnaryOp .USub (.Constant (.int 1) k p1) p2)) p3) pos) (sj rR la):=by
 refine PE.weak (pe_revL ha) fun σ H Q ⟨S,G,Φ,s,g,q,kk⟩ => ?_
 refine ⟨S,G,_,s,g,q,fun t G1 v H1 q1 r1 g1 s1 => ?_⟩
 cases r1 with
 | ref p =>
  simp only [rR] at q1
  split at q1
  . rename_i xs e
    obtain ⟨vs,h1,r4⟩:=g1.obj _ _ e
    refine ⟨p,vs,rfl,SqL.of h1,fun p' hp => ?_⟩
    obtain ⟨g4,s4⟩:=dJ g1 hp r4.rev
    exact kk _ _ _ _ (q1 p' (g1.fresh hp)) (.ref p') g4 (s1.trans s4)
  . exact q1.elim
 | _ => exact q1.elim
def eB (neg : Bool) : bj
 | t, .ref a, G, Φ => match G a with
  | some (.dic kvs) => (match bK t with
   | some _ => Φ (.bl (if neg then !(aP kvs t).isSome else (aP kvs t).isSome)) G
   | none => (match cB t with
    | some _ => kvs = [] /\ Φ (.bl neg) G
    | none => False))
  | some (.dicN kvs) => (match cB t with
   | some k => Φ (.bl (if neg then !(bF kvs k).isSome else (bF kvs k).isSome)) G
   | none => False)
  | some (.fdicN _ _ kvs) => (match cB t with
   | some k => Φ (.bl (if neg then !(bF kvs k).isSome else (bF kvs k).isSome)) G
   | none => False)
  | some (.fdic _ _ kvs) => (match bK t with
   | some _ => Φ (.bl (if neg then !(aP kvs t).isSome else (aP kvs t).isSome)) G
   | none => False)
  | some (.lst _) => ∃ d ds,Dat G t d /\ Dat G (.ref a) (.list ds) /\ SeqAt.shaped d = true /\ SeqAt.shaped (.list ds) = true /\ Φ (.bl (if neg then !ds.any fun z => PyData.eqv z d else ds.any fun z => PyData.eqv z d)) G
  | _ => False
 | .str x,.str z,G,Φ => ∃ c,x = ⟨#[c]⟩ /\ Φ (.bl (if neg then !decide (c ∈ z.cps.toList) else decide (c ∈ z.cps.toList))) G
 | .str x,.tup ts,G,Φ => ∃ ss : List Str,ts = ss.map T.str /\ Φ (.bl (if neg then !decide (x ∈ ss) else decide (x ∈ ss))) G
 | .tup us,.tup ts,G,Φ => ∃ d ds,Dat G (.tup us) d /\ Dat G (.tup ts) (.tuple ds) /\ SeqAt.shaped d = true /\ SeqAt.shaped (.tuple ds) = true /\ Φ (.bl (if neg then !ds.any fun z => PyData.eqv z d else ds.any fun z => PyData.eqv z d)) G
 | _,_,_,_ => False
theorem aeC (hu : X.A.units + 65 < cLine) : OpR X (compareOp .In) (fun x y H Q => ∃ d ds,Dp X.K H x d /\ Dp X.K H y (.tuple ds) /\ SeqAt.shaped d = true /\ SeqAt.shaped (.tuple ds) = true /\ Q (.bl (ds.any fun z => PyData.eqv z d)) H):=by
 intro pins s σ H x y v u Q I rx ry h
 obtain ⟨d,ds,hd,he,sd,se,q⟩:=h
 obtain ⟨as,r1⟩:=Dp.reads I d x v hd rx
 obtain ⟨bs,r2⟩:=Dp.reads I (.tuple ds) y u he ry
 exact SeqAt.in_tuple_reads r2 r1 (SeqAt.canLay_of_shaped se) (SeqAt.canLay_of_shaped sd) (PyProof.Rows.room_in_shaped sd hu) ⟨.bl _,H,I,rfl,q⟩
theorem aco (hu : X.A.units + 65 < cLine) : OpR X (compareOp .NotIn) (fun x y H Q => ∃ d ds,Dp X.K H x d /\ Dp X.K H y (.tuple ds) /\ SeqAt.shaped d = true /\ SeqAt.shaped (.tuple ds) = true /\ Q (.bl (!ds.any fun z => PyData.eqv z d)) H):=by
 intro pins s σ H x y v u Q I rx ry h
 obtain ⟨d,ds,hd,he,sd,se,q⟩:=h
 obtain ⟨as,r1⟩:=Dp.reads I d x v hd rx
 obtain ⟨bs,r2⟩:=Dp.reads I (.tuple ds) y u he ry
 exact SeqAt.notIn_tuple_reads r2 r1 (SeqAt.canLay_of_shaped se) (SeqAt.canLay_of_shaped sd) (PyProof.Rows.room_in_shaped sd hu) ⟨.bl _,H,I,rfl,q⟩
theorem RelL.strs {K : Fr0} {H : Hp} : ∀ {vs : List V} {ss : List Str},RelL K H vs (ss.map T.str) -> vs = ss.map V.str
 | [],[],_ => rfl
 | v :: vs,s :: ss,h => by
  rw [List.map_cons] at h
  cases h with
  | cons h1 h2 =>
   cases h1
   rw [List.map_cons,RelL.strs h2]
 | [],_ :: _,h => by rw [List.map_cons] at h; cases h
 | _ :: _,[],h => by cases h
theorem pT (x : Str) : ∀ ss : List Str,inV (.str x) (ss.map V.str) = decide (x ∈ ss)
 | [] => rfl
 | s :: ss => by
  have ih:=pT x ss
  unfold inV at ih ⊢
  rw [List.map_cons,List.any_cons,ih]
  have e : eqV (.str s) (.str x) = decide (x = s):=by
   show (s == x) = _
   by_cases h : s = x
   . subst h; simp
   . have h2 : ¬ x = s:=fun z => h z.symm
     simp [h,h2]
  rw [e]
  by_cases h : x = s <;> simp [h]
theorem flat_strs (ss : List Str) : (ss.map V.str).all flatV = true:=by
 rw [List.all_eq_true]
 intro v hv
 obtain ⟨s,_,rfl⟩:=List.mem_map.mp hv
 rfl
theorem adS (hu : X.A.units + 1 < cLine) : OpR X (compareOp .In) (fun y x H Q => ∃ a k kvs,x = .ref a /\ y = kV k /\ Rd H a (.dK kvs) /\ Q (.bl (valV kvs k).isSome) H):=by
 intro pins s σ H y x u v Q I ry rx h
 obtain ⟨a,k,kvs,rfl,rfl,hp,q⟩:=h
 obtain rfl : v = Value.ref a:=rx
 exact d_in hu I (.inl ⟨kvs,k,hp,rfl,rfl⟩) ry fun s3 I3 => ⟨.bl _,H,I3,rfl,q⟩
theorem adp (hu : X.A.units + 1 < cLine) : OpR X (compareOp .NotIn) (fun y x H Q => ∃ a k kvs,x = .ref a /\ y = kV k /\ Rd H a (.dK kvs) /\ Q (.bl (!(valV kvs k).isSome)) H):=by
 intro pins s σ H y x u v Q I ry rx h
 obtain ⟨a,k,kvs,rfl,rfl,hp,q⟩:=h
 obtain rfl : v = Value.ref a:=rx
 exact d_notIn hu I (.inl ⟨kvs,k,hp,rfl,rfl⟩) ry fun s3 I3 => ⟨.bl _,H,I3,rfl,q⟩
theorem aed (hu : X.A.units + 9 < cLine) : OpR X (compareOp .In) (fun y x H Q => ∃ raw k,mJ X.w X.K H x y raw k /\ Q (.bl (valN raw k).isSome) H):=by
 intro pins s σ H y x u v Q I ry rx h
 obtain ⟨raw,k,⟨p,q,ts,kt,rfl,rfl,h1,h2,h3,h4,h5⟩,qq⟩:=h
 obtain rfl : v = Value.ref p:=rx
 obtain rfl : u = Value.ref q:=ry
 exact aaD hu I h1 (jM I h2) ⟨hX I h3 h4 rfl,h5⟩ fun s3 I3 => ⟨.bl _,H,I3,rfl,qq⟩
theorem aeu (hu : X.A.units + 9 < cLine) : OpR X (compareOp .NotIn) (fun y x H Q => ∃ raw k,mJ X.w X.K H x y raw k /\ Q (.bl (!(valN raw k).isSome)) H):=by
 intro pins s σ H y x u v Q I ry rx h
 obtain ⟨raw,k,⟨p,q,ts,kt,rfl,rfl,h1,h2,h3,h4,h5⟩,qq⟩:=h
 obtain rfl : v = Value.ref p:=rx
 obtain rfl : u = Value.ref q:=ry
 exact aah hu I h1 (jM I h2) ⟨hX I h3 h4 rfl,h5⟩ fun s3 I3 => ⟨.bl _,H,I3,rfl,qq⟩
def vn (K : Fr0) (H : Hp) (x y : V) : Prop:=∃ p q kt k,x = .ref p /\ y = .ref q /\ H p = some (.dK []) /\ Rel K H (.ref q) kt /\ bT kt = some k /\ k.depth <= 8
theorem rV {K : Fr0} {en : En} {H : Hp} {G : Gp} {p : Addr} {v : V} {u : T} {k : NestedKey} (g : HRel K en H G) (e : G p = some (.dic [])) (ru : Rel K H v u) (hk : cB u = some k) : vn K H (.ref p) v:=by
 obtain ⟨vs,h1,h2⟩:=g.obj _ _ e
 cases h2
 obtain ⟨e1,e2,q,rfl⟩:=mD hk ru
 exact ⟨p,q,u,k,rfl,rfl,h1,ru,e1,e2⟩
theorem afp (hu : X.A.units + 9 < cLine) : OpR X (compareOp .In) (fun y x H Q => vn X.K H x y /\ Q (.bl false) H):=by
 intro pins s σ H y x u v Q I ry rx h
 obtain ⟨⟨p,q,kt,k,rfl,rfl,h1,h3,h4,h5⟩,qq⟩:=h
 obtain rfl : v = Value.ref p:=rx
 obtain rfl : u = Value.ref q:=ry
 exact aeZ hu I h1 ⟨hX I h3 h4 rfl,h5⟩ fun s3 I3 => ⟨.bl _,H,I3,rfl,qq⟩
theorem aeT (hu : X.A.units + 9 < cLine) : OpR X (compareOp .NotIn) (fun y x H Q => vn X.K H x y /\ Q (.bl true) H):=by
 intro pins s σ H y x u v Q I ry rx h
 obtain ⟨⟨p,q,kt,k,rfl,rfl,h1,h3,h4,h5⟩,qq⟩:=h
 obtain rfl : v = Value.ref p:=rx
 obtain rfl : u = Value.ref q:=ry
 exact adg hu I h1 ⟨hX I h3 h4 rfl,h5⟩ fun s3 I3 => ⟨.bl _,H,I3,rfl,qq⟩
theorem look_some {K : Fr0} {H : Hp} {vs : List (Key × V)} {ts : List (T × T)} (r : RelD K H vs ts) (k : Key) : (valV vs k).isSome = (aP ts (kT k)).isSome:=by
 rcases r.look (k:=k) with ⟨h1,h2⟩ | ⟨t,v,h1,h2,_⟩ <;> rw [h1,h2] <;> rfl
theorem aeH (hu : X.A.units + 65 < cLine) (hw : X.w = Dv.Wld.w:=by rfl) : OpR X (compareOp .In) (bG X.K en (eB false)):=by
 refine OpR.weak (OpR.or (OpR.or (adS (by omega)) (OpR.or (op_inD hu) (OpR.or op_in_sign op_in_seq))) (OpR.or (OpR.or (aed (by omega)) (afp (by omega))) (aeC hu))) fun x y H Q ⟨t,u,G,Φ,rt,ru,g,q,k⟩ => ?_
 cases ru with
 | ref a =>
  have q : (match G a with
   | some (.dic kvs) => (match bK t with
    | some _ => Φ (.bl (aP kvs t).isSome) G
    | none => (match cB t with
     | some _ => kvs = [] /\ Φ (.bl false) G
     | none => False))
   | some (.dicN kvs) => (match cB t with
    | some k => Φ (.bl (bF kvs k).isSome) G
    | none => False)
   | some (.fdicN _ _ kvs) => (match cB t with
    | some k => Φ (.bl (bF kvs k).isSome) G
    | none => False)
   | some (.fdic _ _ kvs) => (match bK t with
    | some _ => Φ (.bl (aP kvs t).isSome) G
    | none => False)
   | some (.lst _) => ∃ d ds,Dat G t d /\ Dat G (.ref a) (.list ds) /\ SeqAt.shaped d = true /\ SeqAt.shaped (.list ds) = true /\ Φ (.bl (ds.any fun z => PyData.eqv z d)) G
   | _ => False):=by cases t <;> exact q
  split at q
  . rename_i kvs e
    split at q
    . rename_i k0 e1
      obtain ⟨vs,h1,r1⟩:=g.obj _ _ e
      have eu:=f7 e1
      subst eu
      exact .inl (.inl ⟨a,k0,vs,rfl,rt.key,.inl h1,by rw [look_some r1]; exact k _ _ _ _ q (.bl _) g (Step.refl H G)⟩)
    . split at q
      . rename_i k0 ek
        obtain ⟨rfl,q⟩:=q
        exact .inr (.inl (.inr ⟨rV g e rt ek,k _ _ _ _ q (.bl _) g (Step.refl H G)⟩))
      . exact q.elim
  . rename_i kvs e
    split at q
    . rename_i k0 ek
      obtain ⟨raw,h1,r1⟩:=rS hw g e rt ek
      exact .inr (.inl (.inl ⟨raw,k0,h1,by rw [r1.some_eq]; exact k _ _ _ _ q (.bl _) g (Step.refl H G)⟩))
    . exact q.elim
  . rename_i ob raw0 kvs e
    split at q
    . rename_i k0 ek
      obtain ⟨raw,h1,r1⟩:=sH hw g e rt ek
      exact .inr (.inl (.inl ⟨raw,k0,h1,by rw [r1.some_eq]; exact k _ _ _ _ q (.bl _) g (Step.refl H G)⟩))
    . exact q.elim
  . rename_i ob vs kvs e
    split at q
    . rename_i k0 e1
      obtain ⟨h1,r1⟩:=g.obj _ _ e
      have eu:=f7 e1
      subst eu
      exact .inl (.inl ⟨a,k0,vs,rfl,rt.key,.inr ⟨ob,h1⟩,by rw [look_some r1]; exact k _ _ _ _ q (.bl _) g (Step.refl H G)⟩)
    . exact q.elim
  . obtain ⟨d,ds,h1,h2,h3,h4,q⟩:=q
    exact .inl (.inr (.inl ⟨d,ds,h1.dp g rt,h2.dp g (.ref a),h3,h4,k _ _ _ _ q (.bl _) g (Step.refl H G)⟩))
  . exact q.elim
 | str z =>
  cases rt with
  | str x =>
   obtain ⟨c,rfl,q⟩:=q
   exact .inl (.inr (.inr (.inl ⟨c,z,rfl,rfl,k _ _ _ _ q (.bl _) g (Step.refl H G)⟩)))
  | _ => exact q.elim
 | tup hs rs =>
  cases rt with
  | str x =>
   obtain ⟨ss,rfl,q⟩:=q
   have e:=rs.strs
   subst e
   refine .inl (.inr (.inr (.inr ⟨_,_,rfl,.inr hs,rfl,flat_strs ss,?_⟩)))
   rw [if_neg Bool.false_ne_true,pT]
   exact k _ _ _ _ q (.bl _) g (Step.refl H G)
  | tup hs2 rs2 =>
   obtain ⟨d,ds,h1,h2,h3,h4,q⟩:=q
   exact .inr (.inr ⟨d,ds,h1.dp g (.tup hs2 rs2),h2.dp g (.tup hs rs),h3,h4,k _ _ _ _ q (.bl _) g (Step.refl H G)⟩)
  | _ => exact q.elim
 | _ => cases rt <;> exact q.elim
theorem kU (hu : X.A.units + 65 < cLine) (hw : X.w = Dv.Wld.w:=by rfl) : OpR X (compareOp .NotIn) (bG X.K en (eB true)):=by
 refine OpR.weak (OpR.or (OpR.or (adp (by omega)) (OpR.or (op_notInD hu) (OpR.or op_notIn_sign op_notIn_seq))) (OpR.or (OpR.or (aeu (by omega)) (aeT (by omega))) (aco hu))) fun x y H Q ⟨t,u,G,Φ,rt,ru,g,q,k⟩ => ?_
 cases ru with
 | ref a =>
  have q : (match G a with
   | some (.dic kvs) => (match bK t with
    | some _ => Φ (.bl (!(aP kvs t).isSome)) G
    | none => (match cB t with
     | some _ => kvs = [] /\ Φ (.bl true) G
     | none => False))
   | some (.dicN kvs) => (match cB t with
    | some k => Φ (.bl (!(bF kvs k).isSome)) G
    | none => False)
   | some (.fdicN _ _ kvs) => (match cB t with
    | some k => Φ (.bl (!(bF kvs k).isSome)) G
    | none => False)
   | some (.fdic _ _ kvs) => (match bK t with
    | some _ => Φ (.bl (!(aP kvs t).isSome)) G
    | none => False)
   | some (.lst _) => ∃ d ds,Dat G t d /\ Dat G (.ref a) (.list ds) /\ SeqAt.shaped d = true /\ SeqAt.shaped (.list ds) = true /\ Φ (.bl (!ds.any fun z => PyData.eqv z d)) G
   | _ => False):=by cases t <;> exact q
  split at q
  . rename_i kvs e
    split at q
    . rename_i k0 e1
      obtain ⟨vs,h1,r1⟩:=g.obj _ _ e
      have eu:=f7 e1
      subst eu
      exact .inl (.inl ⟨a,k0,vs,rfl,rt.key,.inl h1,by rw [look_some r1]; exact k _ _ _ _ q (.bl _) g (Step.refl H G)⟩)
    . split at q
      . rename_i k0 ek
        obtain ⟨rfl,q⟩:=q
        exact .inr (.inl (.inr ⟨rV g e rt ek,k _ _ _ _ q (.bl _) g (Step.refl H G)⟩))
      . exact q.elim
  . rename_i kvs e
    split at q
    . rename_i k0 ek
      obtain ⟨raw,h1,r1⟩:=rS hw g e rt ek
      exact .inr (.inl (.inl ⟨raw,k0,h1,by rw [r1.some_eq]; exact k _ _ _ _ q (.bl _) g (Step.refl H G)⟩))
    . exact q.elim
  . rename_i ob raw0 kvs e
    split at q
    . rename_i k0 ek
      obtain ⟨raw,h1,r1⟩:=sH hw g e rt ek
      exact .inr (.inl (.inl ⟨raw,k0,h1,by rw [r1.some_eq]; exact k _ _ _ _ q (.bl _) g (Step.refl H G)⟩))
    . exact q.elim
  . rename_i ob vs kvs e
    split at q
    . rename_i k0 e1
      obtain ⟨h1,r1⟩:=g.obj _ _ e
      have eu:=f7 e1
      subst eu
      exact .inl (.inl ⟨a,k0,vs,rfl,rt.key,.inr ⟨ob,h1⟩,by rw [look_some r1]; exact k _ _ _ _ q (.bl _) g (Step.refl H G)⟩)
    . exact q.elim
  . obtain ⟨d,ds,h1,h2,h3,h4,q⟩:=q
    exact .inl (.inr (.inl ⟨d,ds,h1.dp g rt,h2.dp g (.ref a),h3,h4,k _ _ _ _ q (.bl _) g (Step.refl H G)⟩))
  . exact q.elim
 | str z =>
  cases rt with
  | str x =>
   obtain ⟨c,rfl,q⟩:=q
   exact .inl (.inr (.inr (.inl ⟨c,z,rfl,rfl,k _ _ _ _ q (.bl _) g (Step.refl H G)⟩)))
  | _ => exact q.elim
 | tup hs rs =>
  cases rt with
  | str x =>
   obtain ⟨ss,rfl,q⟩:=q
   have e:=rs.strs
   subst e
   refine .inl (.inr (.inr (.inr ⟨_,_,rfl,.inr hs,rfl,flat_strs ss,?_⟩)))
   rw [if_pos rfl,pT]
   exact k _ _ _ _ q (.bl _) g (Step.refl H G)
  | tup hs2 rs2 =>
   obtain ⟨d,ds,h1,h2,h3,h4,q⟩:=q
   exact .inr (.inr ⟨d,ds,h1.dp g (.tup hs2 rs2),h2.dp g (.tup hs rs),h3,h4,k _ _ _ _ q (.bl _) g (Step.refl H G)⟩)
  | _ => exact q.elim
 | _ => cases rt <;> exact q.elim
end
section
variable {X : Cx} {a b c e o i : Expr} {es : List Expr} {st : Stmt} {ss ss2 : List Stmt} {la lb lo li : LE} {l : LA} {tl : LT} {pos p2 : Pos} {ls ms : LS}
def qo : LS:=fun L S G => L.nx S G
def iW (a b : LS) : LS:=fun L S G => a { L with nx:=fun S' G' => ∃ G0,Sub G0 G' /\ b L S' G0 } S G
def sP (la : LE) : LS:=fun L S G => la S G fun _ G1 => L.nx S G1
def nK (la : LE) : LS:=fun L S G => la S G L.rt
def wY : LS:=fun L _ G => L.rt .non G
def rN (c : LT) (a b : LS) : LS:=fun L S G => c S G fun k G1 => if k = true then a L S G1 else b L S G1
def aeO : LS:=fun _ _ _ => False
theorem j8 : dj en X [] qo:=PSs.weak pss_nil fun D σ H ⟨S,G,L,s,g,q,e⟩ => e.nx S G σ H q s g (Step.refl H G)
theorem cX (h : Es en X st ls) (hr : dj en X ss ms) : dj en X (st :: ss) (iW ls ms):=by
 refine PSs.weak (pss_cons h hr) fun D σ H ⟨S,G,L,s,g,q,e⟩ => ?_
 refine ⟨S,G,{ L with nx:=fun S' G' => ∃ G0,Sub G0 G' /\ ms L S' G0 },s,g,q,⟨fun S' G' σ' H' ⟨G0,sb,q'⟩ s' g' t => ⟨S',G0,L,s',g'.sub sb,q',e.step (t.sub sb)⟩,e.rt,e.bk,e.ct⟩⟩
theorem ei (h : Es en X st ls) : dj en X [st] ls:=pss_one h
theorem wj : Es en X st aeO:=PS.weak ps_never fun D σ H ⟨S,G,L,s,g,q,e⟩ => q.elim
theorem pQ (h : E en X e la) (hs : swapsWith e none pos.line X.env = pure false:=by rfl) : Es en X (.Expr e pos) (sP la) :=
 PS.weak (ps_expr h hs) fun D σ H ⟨S,G,L,s,g,q,en⟩ => ⟨S,G,_,s,g,q,fun t G1 v H1 q1 r1 g1 s1 => en.nx S G1 σ H1 q1 (s.stay (s1.stay g)) g1 s1⟩
theorem s_ret (h : E en X e la) : Es en X (.Return (some e) pos) (nK la) :=
 PS.weak (ps_ret h) fun D σ H ⟨S,G,L,s,g,q,en⟩ => ⟨S,G,_,s,g,q,fun t G1 v H1 q1 r1 g1 s1 => en.rt t G1 v H1 q1 r1 g1 s1⟩
theorem s_if (hc : Et en X c tl) (ha : dj en X ss ls) (hb : dj en X ss2 ms) : Es en X (.If c ss ss2 pos) (rN tl ls ms):=by
 refine PS.weak (ps_if hc ha hb) fun D σ H ⟨S,G,L,s,g,q,e⟩ => ?_
 refine ⟨S,G,_,s,g,q,fun k G1 H1 q1 g1 s1 => ?_⟩
 cases k with
 | true => exact ⟨S,G1,L,s.stay (s1.stay g),g1,q1,e.step s1⟩
 | false => exact ⟨S,G1,L,s.stay (s1.stay g),g1,q1,e.step s1⟩
theorem zB {σ : L2.St} {j : Nat} {x : Option V} : ∀ {ws : List Nat},j ∈ ws -> L2.wipe (σ.set j x) ws = L2.wipe σ ws
 | [],h => by cases h
 | w :: ws,h => by
  show (L2.wipe (σ.set j x) ws).set w none = (L2.wipe σ ws).set w none
  by_cases hj : j ∈ ws
  . rw [zB hj]
  . have e : j = w:=by
      rcases List.mem_cons.mp h with z | z
      . exact z
      . exact absurd z hj
    subst e
    have aux : ∀ us : List Nat,j ∉ us -> L2.wipe (σ.set j x) us = (L2.wipe σ us).set j x:=by
     intro us
     induction us with
     | nil => intro _; rfl
     | cons u us ih =>
      intro hu
      show (L2.wipe (σ.set j x) us).set u none = ((L2.wipe σ us).set u none).set j x
      rw [ih fun z => hu (List.mem_cons_of_mem _ z),List.set_comm _ _ (fun z => hu (by rw [z]; exact List.mem_cons_self))]
    rw [aux ws hj,List.set_set]
def Keeps (σ σ' : L2.St) (vs : List Nat) : Prop:=∀ ws : List Nat,(∀ j ∈ vs,j ∈ ws) -> L2.wipe σ' ws = L2.wipe σ ws
def kg (K : Fr0) (f : T -> S2 -> Option S2) (vs : List Nat) : TG:=fun v σ H Q => ∃ t S S',Rel K H v t /\ SRel K H σ S /\ f t S = some S' /\ ∀ σ',SRel K H σ' S' -> Keeps σ σ' vs -> Q σ' H
def abx (K : Fr0) (f : List T -> S2 -> Option S2) (vs : List Nat) : TGs:=fun us σ H Q => ∃ ts S S',RelL K H us ts /\ SRel K H σ S /\ f ts S = some S' /\ ∀ σ',SRel K H σ' S' -> Keeps σ σ' vs -> Q σ' H
def Eg (X : Cx) (tg : Expr) (f : T -> S2 -> Option S2) (vs : List Nat) : Prop:=PG X tg (kg X.K f vs)
def lh (X : Cx) (tg : List Expr) (f : List T -> S2 -> Option S2) (vs : List Nat) : Prop:=PGs X tg (abx X.K f vs)
theorem PG.weak {t t' : TG} (h : PG X e t) (w : ∀ v σ H Q,t' v σ H Q -> t v σ H Q) : PG X e t':=⟨fun pins s σ H v u Q I r q => h.run pins s σ H v u Q I r (w v σ H Q q)⟩
theorem PGs.weak {t t' : TGs} (h : PGs X es t) (w : ∀ v σ H Q,t' v σ H Q -> t v σ H Q) : PGs X es t':=⟨fun pins s σ H v u Q I r q => h.run pins s σ H v u Q I r (w v σ H Q q)⟩
def gN (j : Nat) : T -> S2 -> Option S2:=fun t S => some (S.set j (some t))
def ml : List T -> S2 -> Option S2:=fun ts S => match ts with
 | [] => some S
 | _ => none
def iU (f : T -> S2 -> Option S2) (r : List T -> S2 -> Option S2) : List T -> S2 -> Option S2:=fun ts S => match ts with
 | t :: ts => (match f t S with
  | some S' => r ts S'
  | none => none)
 | [] => none
def gT (n : Nat) (f : List T -> S2 -> Option S2) : T -> S2 -> Option S2:=fun t S => match t with
 | .tup ts => if ts.length = n then f ts S else none
 | _ => none
theorem gm {j : Nat} {x : Str} (hN : X.N.Nodup) (hi : X.N[j]? = some x) (hx : Loc X.env.scope x) (hf : X.fn x = true \/ X.env.scope.names.lookup x = some .local:=by first | exact .inl rfl | exact .inr rfl | assumption) : Eg X (.Name x pos) (gN j) [j] :=
 PG.weak (pg_name hN hi hx hf) fun v σ H Q ⟨t,S,S',r,s,e,k⟩ => by
  cases e
  exact k _ (s.set r j) fun ws h => zB (h j (by simp))
theorem aeA : lh X [] ml []:=PGs.weak pgs_nil fun us σ H Q ⟨ts,S,S',r,s,e,k⟩ => by
 cases r with
 | nil =>
  cases e
  exact ⟨rfl,k σ s fun _ _ => rfl⟩
 | cons _ _ => cases e
theorem aaA {f : T -> S2 -> Option S2} {r : List T -> S2 -> Option S2} {vs ws : List Nat} (h : Eg X e f vs) (hr : lh X es r ws)
 (he : (assignEach (e :: es) X.env).map (·.2) = assign e X.env :: (assignEach es X.env).map (·.2):=by rfl) : lh X (e :: es) (iU f r) (vs ++ ws):=by
 refine PGs.weak (pgs_cons h hr he) fun us σ H Q ⟨ts,S,S',rr,s,q,k⟩ => ?_
 cases rr with
 | nil => cases q
 | @cons v0 t us ts r1 r2 =>
  simp only [iU] at q
  split at q
  . rename_i S1 e1
    refine ⟨_,_,rfl,t,S,S1,r1,s,e1,fun σ1 s1 k1 => ?_⟩
    refine ⟨ts,S1,S',r2,s1,q,fun σ2 s2 k2 => k σ2 s2 fun ws hw => ?_⟩
    rw [k2 ws fun j hj => hw j (List.mem_append_right _ hj),k1 ws fun j hj => hw j (List.mem_append_left _ hj)]
  . cases q
theorem aeo {f : List T -> S2 -> Option S2} {vs : List Nat} {n k : Nat} (hc : X.calm = true) (h : lh X es f vs)
 (hn : (assignEach es X.env).length = n:=by rfl) (hst : (assignEach es X.env).findIdx? (·.1) = none:=by rfl) : Eg X (.Tuple es k pos) (gT n f) vs :=
 PG.weak (pg_tup hc h hn hst) fun v σ H Q ⟨t,S,S',r,s,e,k⟩ => by
  cases r with
  | @tup p xs ts hs rs =>
   simp only [gT] at e
   split at e
   . rename_i hl
     exact ⟨p,xs,rfl,hs,rs.length.trans hl,ts,S,S',rs,s,e,k⟩
   . cases e
  | _ => cases e
def lM (la : LE) (f : T -> S2 -> Option S2) : LS:=fun L S G => la S G fun t G1 => match f t S with
 | some S' => L.nx S' G1
 | none => False
theorem fu {j : Nat} {x : Str} {pos' : Pos} (hN : X.N.Nodup) (hi : X.N[j]? = some x) (hx : Loc X.env.scope x) (he : E en X e la) (hs : swapsWith e (some (.Name x pos')) pos.line X.env = pure false:=by rfl)
 (hf : X.fn x = true \/ X.env.scope.names.lookup x = some .local:=by first | exact .inl rfl | exact .inr rfl | assumption) : Es en X (.Assign [.Name x pos'] e pos) (lM la (gN j)) :=
 PS.weak (ps_set hN hi hx he hs hf) fun D σ H ⟨S,G,L,s,g,q,en⟩ => ⟨S,G,_,s,g,q,fun t G1 v H1 q1 r1 g1 s1 => en.nx _ G1 _ H1 q1 ((s.stay (s1.stay g)).set r1 j) g1 s1⟩
def kX (j k : Nat) (l : LA) : LS:=fun L S G => l S G fun ts G1 => match ts with
 | [t,u] => L.nx ((S.set j (some t)).set k (some u)) G1
 | _ => False
theorem yy {j k : Nat} {x y : Str} {px py pt : Pos} {kt k2 : Nat} {pt2 : Pos} (hc : X.calm = true) (hN : X.N.Nodup) (hi : X.N[j]? = some x) (hj : X.N[k]? = some y) (hij : j ≠ k)
 (hx : X.env.scope.names.lookup x = some .local) (hy : X.env.scope.names.lookup y = some .local) (ha : Ea en X [a,b] l)
 (hw : swappedStores [.Tuple [.Name x px,.Name y py] kt pt] (.Tuple [a,b] k2 pt2) X.env = pure (some [x,y]))
 (hs : swapsWithSole [.Tuple [.Name x px,.Name y py] kt pt] (.Tuple [a,b] k2 pt2) pos.line X.env = pure false:=by rfl) : Es en X (.Assign [.Tuple [.Name x px,.Name y py] kt pt] (.Tuple [a,b] k2 pt2) pos) (kX j k l) :=
 PS.weak (ps_par hc hN hi hj hij hx hy ha hw hs) fun D σ H ⟨S,G,L,s,g,q,en⟩ => by
  refine ⟨S,G,_,s,g,q,fun ts G1 vs H1 q1 r1 g1 s1 => ?_⟩
  split at q1
  . rename_i t u
    cases r1 with
    | cons h1 h2 =>
     cases h2 with
     | cons h2 h3 =>
      cases h3
      exact ⟨_,_,rfl,en.nx _ G1 _ H1 q1 (((s.stay (s1.stay g)).set h1 j).set h2 k) g1 s1⟩
  . exact q1.elim
def yN (j k m : Nat) (l : LA) : LS:=fun L S G => l S G fun ts G1 => match ts with
 | [t,u,v] => L.nx (((S.set j (some t)).set k (some u)).set m (some v)) G1
 | _ => False
def dput (kvs : List (T × T)) (k v : T) : List (T × T) :=
 if (kvs.any fun kv => decide (kv.1 = k)) = true then kvs.map (fun kv => if kv.1 = k then (kv.1,v) else kv) else kvs ++ [(k,v)]
theorem RelD.any {K : Fr0} {H : Hp} (k : Key) : ∀ {vs : List (Key × V)} {ts : List (T × T)},RelD K H vs ts -> (vs.any fun kv => decide (kv.1 = k)) = (ts.any fun kv => decide (kv.1 = kT k))
 | _,_,.nil => rfl
 | _, _, .cons (k := j) _ r => by
  rw [List.any_cons,List.any_cons,RelD.any k r]
  congr 1
  by_cases e : j = k
  . subst e; simp
  . have e' : ¬ kT j = kT k:=fun z => e (jt z)
    simp [e,e']
theorem RelD.mapPut {K : Fr0} {H : Hp} (k : Key) {v : V} {t : T} (h : Rel K H v t) : ∀ {vs : List (Key × V)} {ts : List (T × T)},RelD K H vs ts ->
    RelD K H (vs.map fun kv => if kv.1 = k then (kv.1,v) else kv) (ts.map fun kv => if kv.1 = kT k then (kv.1,t) else kv)
 | _,_,.nil => .nil
 | _, _, .cons (k := j) hr r => by
  rw [List.map_cons,List.map_cons]
  by_cases e : j = k
  . subst e
    rw [if_pos rfl,if_pos rfl]
    exact .cons h (RelD.mapPut _ h r)
  . have e' : ¬ kT j = kT k:=fun z => e (jt z)
    rw [if_neg e,if_neg e']
    exact .cons hr (RelD.mapPut _ h r)
theorem RelD.app {K : Fr0} {H : Hp} : ∀ {vs ws : List (Key × V)} {ts us : List (T × T)},RelD K H vs ts -> RelD K H ws us -> RelD K H (vs ++ ws) (ts ++ us)
 | _,_,_,_,.nil,s => s
 | _,_,_,_,.cons r t,s => .cons r (RelD.app t s)
theorem RelD.put {K : Fr0} {H : Hp} {k : Key} {v : V} {t : T} {vs : List (Key × V)} {ts : List (T × T)} (r : RelD K H vs ts) (h : Rel K H v t) : RelD K H (putK vs k v) (dput ts (kT k) t):=by
 unfold putK dput
 rw [r.any k]
 split
 . exact r.mapPut k h
 . exact r.app (.cons h .nil)
theorem RelD.length {K : Fr0} {H : Hp} : ∀ {vs : List (Key × V)} {ts : List (T × T)},RelD K H vs ts -> vs.length = ts.length
 | _,_,.nil => rfl
 | _,_,.cons _ r => by simp [RelD.length r]
def setT : T -> T -> T -> Gp -> (Gp -> Prop) -> Prop
 | .ref a,u,v,G,Ψ => match G a with
  | some (.lst xs) => (match u with
   | .int k => (match ixN xs.length k with
    | some j => Ψ (gup G a (.lst (xs.set j v)))
    | none => False)
   | _ => False)
  | some (.dic kvs) => (match bK u with
   | some _ => kvs.length < sizeLine /\ Ψ (gup G a (.dic (dput kvs u v)))
   | none => (match cB u with
    | some _ => kvs = [] /\ Ψ (gup G a (.dicN [(u,v)]))
    | none => False))
  | some (.dicN kvs) => (match cB u with
   | some k => kvs.length < sizeLine /\ Ψ (gup G a (.dicN (kZ kvs k u v)))
   | none => False)
  | _ => False
 | _,_,_,_,_ => False
theorem abX (hu : X.A.units + 9 < cLine) : PSet X (fun o i v H Q => ∃ p q raw ts kt k,o = .ref p /\ i = .ref q /\ H p = some (aL X.w p raw) /\ RelN X.K H raw ts /\ Rel X.K H (.ref q) kt /\ bT kt = some k /\ k.depth <= 8 /\ raw.length < sizeLine /\ Q (L2.upd H p (aL X.w p (putN raw k q v)))):=by
 intro pins s σ H o i v ov iv u Q I ro ri rv h
 obtain ⟨p,q,raw,ts,kt,k,rfl,rfl,h1,h2,h3,h4,h5,hl,qq⟩:=h
 obtain rfl : ov = Value.ref p:=ro
 obtain rfl : iv = Value.ref q:=ri
 exact abl hu I h1 (jM I h2) ⟨hX I h3 h4 rfl,h5⟩ hl rv fun s' I' => ⟨_,I',qq⟩
theorem acF (hu : X.A.units + 9 < cLine) : PSet X (fun o i v H Q => ∃ p q kt k,o = .ref p /\ i = .ref q /\ H p = some (.dK []) /\ Rel X.K H (.ref q) kt /\ bT kt = some k /\ k.depth <= 8 /\ Q (L2.upd H p (aL X.w p [(k,q,v)]))):=by
 intro pins s σ H o i v ov iv u Q I ro ri rv h
 obtain ⟨p,q,kt,k,rfl,rfl,h1,h3,h4,h5,qq⟩:=h
 obtain rfl : ov = Value.ref p:=ro
 obtain rfl : iv = Value.ref q:=ri
 exact aaG hu I h1 ⟨hX I h3 h4 rfl,h5⟩ rv fun s' I' => ⟨_,I',qq⟩
theorem abE (hu : X.A.units + 1 < cLine) : PSet X (fun o i v H Q => ∃ a k kvs,o = .ref a /\ i = kV k /\ H a = some (.dK kvs) /\ kvs.length < sizeLine /\ Q (L2.upd H a (.dK (putK kvs k v)))):=by
 intro pins s σ H o i v ov iv u Q I ro ri rv h
 obtain ⟨a,k,kvs,rfl,rfl,hp,hl,q⟩:=h
 obtain rfl : ov = Value.ref a:=ro
 exact d_setItem hu I (DPut.k hp hl) ri rv fun s' I' => ⟨_,I',q⟩
theorem PSet.or {r r' : TSet} (h : PSet X r) (h' : PSet X r') : PSet X (fun o i v H Q => r o i v H Q \/ r' o i v H Q):=fun pins s σ H o i v ov iv u Q I ro ri rv q => q.elim (h pins s σ H o i v ov iv u Q I ro ri rv) (h' pins s σ H o i v ov iv u Q I ro ri rv)
def kY (lo li lv : LE) : LS:=fun L S G => lv S G fun v G1 => lo S G1 fun t G2 => li S G2 fun u G3 => setT t u v G3 fun G4 => L.nx S G4
theorem ka {e : Expr} {lv : LE} {p3 : Pos} (hu : X.A.units + 9 < cLine) (ho : E en X o lo) (hi : E en X i li) (he : E en X e lv) (hs : swapsWithSole [.Subscript o i p3] e pos.line X.env = pure false:=by rfl) (hw : swappedStores [.Subscript o i p3] e X.env = pure none:=by rfl)
 (h1 : (assignEach [.Subscript o i p3] X.env).map (·.2) = [assign (.Subscript o i p3) X.env]:=by rfl)
 (ha : ∀ v,assign (.Subscript o i p3) X.env v = (do
     let ov <- holding [v] (eval o X.env)
     let iv <- holding [v,ov] (eval i X.env)
     standAt p3
     holding [v,ov,iv] (setItem ov iv v)
     release [v,ov,iv] []):=by intro _; rfl) (hww : X.w = Dv.Wld.w:=by rfl) : Es en X (.Assign [.Subscript o i p3] e pos) (kY lo li lv):=by
 refine PS.weak (ps_asg he (pg_sub ho hi (PSet.or (PSet.or set_list (abE (by omega))) (PSet.or (abX hu) (acF hu))) ha) hs hw h1) fun D σ H ⟨S,G,L,s,g,q,en⟩ => ?_
 refine ⟨S,G,_,s,g,q,fun v G1 x H1 q1 r1 g1 s1 => ?_⟩
 refine ⟨S,G1,_,s.stay (s1.stay g),g1,q1,fun t G2 y H2 q2 r2 g2 s2 => ?_⟩
 refine ⟨S,G2,_,s.stay ((s1.trans s2).stay g),g2,q2,fun u G3 z H3 q3 r3 g3 s3 => ?_⟩
 have s13:=(s1.trans s2).trans s3
 have rv:=r1.stay ((s2.trans s3).stay g1)
 have rt:=r2.stay (s3.stay g2)
 cases rt with
 | ref p =>
  simp only [setT] at q3
  split at q3
  . rename_i xs e3
    obtain ⟨vs,h4,r4⟩:=g3.obj _ _ e3
    cases r3 with
    | int k =>
     simp only at q3
     split at q3
     . rename_i j ej
       obtain ⟨g4,s4,st⟩:=g3.upd (a:=p) (ho:=.lst (vs.set j x)) (o:=.lst (xs.set j v)) (.inr ⟨_,e3,fun n z => by cases z⟩) (fun n z => by cases z) ⟨_,upd_same,RelL.stay (fc g3 e3 (fun n z => by cases z)) (r4.set rv j)⟩
       refine .inl (.inl ⟨p,vs,k,j,rfl,rfl,h4,by rw [r4.length]; exact ej,?_⟩)
       exact en.nx S _ σ _ q3 (s.stay ((s13.trans s4).stay g)) g4 (s13.trans s4)
     . exact q3.elim
    | _ => exact q3.elim
  . rename_i kvs e3
    split at q3
    . rename_i k0 ek
      obtain ⟨vs,h4,r4⟩:=g3.obj _ _ e3
      have eu:=f7 ek
      subst eu
      obtain ⟨g4,s4,st⟩:=g3.upd (a:=p) (ho:=.dK (putK vs k0 x)) (o:=.dic (dput kvs (kT k0) v)) (.inr ⟨_,e3,fun n z => by cases z⟩) (fun n z => by cases z) ⟨_,upd_same,RelD.stay (fc g3 e3 (fun n z => by cases z)) (r4.put rv)⟩
      refine .inl (.inr ⟨p,k0,vs,rfl,r3.key,h4,by rw [r4.length]; exact q3.1,?_⟩)
      exact en.nx S _ σ _ q3.2 (s.stay ((s13.trans s4).stay g)) g4 (s13.trans s4)
    . split at q3
      . rename_i k0 ek
        obtain ⟨rfl,q3⟩:=q3
        obtain ⟨p',q',kt',k',e1,e2,h4,h5,h6,h7⟩:=rV g3 e3 r3 ek
        cases e1
        subst e2
        obtain ⟨eq1,eq2,_⟩:=mD ek r3
        obtain ⟨g4,s4,st⟩:=g3.upd (a:=p) (ho:=aL Dv.Wld.w p [(k0,q',x)]) (o:=.dicN [(u,v)]) (.inr ⟨_,e3,fun n z => by cases z⟩) (fun n z => by cases z) ⟨_,upd_same,RelN.stay (fc g3 e3 (fun n z => by cases z)) (.cons r3 eq1 eq2 rv .nil)⟩
        refine .inr (.inr ⟨p,q',u,k0,rfl,rfl,h4,r3,eq1,eq2,?_⟩)
        rw [hww]
        exact en.nx S _ σ _ q3 (s.stay ((s13.trans s4).stay g)) g4 (s13.trans s4)
      . exact q3.elim
  . rename_i kvs e3
    split at q3
    . rename_i k0 ek
      obtain ⟨raw,h1,r4⟩:=g3.obj _ _ e3
      obtain ⟨eq1,eq2,q',rfl⟩:=mD ek r3
      have h4 : H3 p = some (aL X.w p raw):=by rw [hww]; exact h1
      obtain ⟨g4,s4,st⟩:=g3.upd (a:=p) (ho:=aL Dv.Wld.w p (putN raw k0 q' x)) (o:=.dicN (kZ kvs k0 u v)) (.inr ⟨_,e3,fun n z => by cases z⟩) (fun n z => by cases z) ⟨_,upd_same,RelN.stay (fc g3 e3 (fun n z => by cases z)) (r4.put r3 eq1 eq2 rv)⟩
      refine .inr (.inl ⟨p,q',raw,kvs,u,k0,rfl,rfl,h4,r4,r3,eq1,eq2,by rw [r4.length]; exact q3.1,?_⟩)
      rw [hww]
      exact en.nx S _ σ _ q3.2 (s.stay ((s13.trans s4).stay g)) g4 (s13.trans s4)
    . exact q3.elim
  . exact q3.elim
 | _ => exact q3.elim
end
theorem gU {H : Hp} {G : Gp} {D a : Addr} {ho : HO} (h : ¬ Own H G D) : Own (L2.upd H D ho) G a ↔ Own H G a:=by
 have e : ∀ d n,G d = some (.drw n) -> (Hid (L2.upd H D ho) d a ↔ Hid H d a):=by
  intro d n e
  have hd : d ≠ D:=fun z => h (.inl ⟨_,z ▸ e⟩)
  unfold Hid
  rw [upd_ne hd]
 constructor
 . rintro (z | ⟨d,n,q,r⟩)
   . exact .inl z
   . exact .inr ⟨d,n,q,(e d n q).mp r⟩
 . rintro (z | ⟨d,n,q,r⟩)
   . exact .inl z
   . exact .inr ⟨d,n,q,(e d n q).mpr r⟩
theorem kH {H : Hp} {G G' : Gp} {a : Addr} (s : Sub G G') : Own H G a -> Own H G' a:=fun z => z.imp (fun ⟨o,q⟩ => ⟨o,s _ _ q⟩) fun ⟨d,n,q,h⟩ => ⟨d,n,s _ _ q,h⟩
theorem j4 {K : Fr0} {H : Hp} {G : Gp} {D : Addr} (g : HRel K en H G) (h : H D = none) : ¬ Own H G D:=by
 intro z
 obtain ⟨u,e,_⟩:=g.own_kind z
 rw [h] at e
 cases e
theorem Step.under {H0 H : Hp} {G0 G : Gp} {D : Addr} {ho : HO} (s : Step H0 G0 H G) (h0 : ∀ o,H0 D = some o -> ∃ ps,o = .tbl ps) (h : ¬ Own H G D) : Step H0 G0 (L2.upd H D ho) G:=by
 have ne : ∀ a o,H0 a = some o -> (∀ ps,o ≠ .tbl ps) -> a ≠ D:=fun a o e y z => by
  obtain ⟨ps,q⟩:=h0 o (z ▸ e)
  exact y ps q
 refine ⟨fun a o e y n => ?_,fun a o e y => ?_⟩
 . obtain ⟨h1,h2⟩:=s.fr a o e y n
   exact ⟨by rw [upd_ne (ne a o e y)]; exact h1,fun z => h2 ((gU h).mp z)⟩
 . obtain ⟨o',h1,h2⟩:=s.al a o e y
   exact ⟨o',by rw [upd_ne (ne a o e y)]; exact h1,h2⟩
theorem HRel.under {K : Fr0} {H : Hp} {G : Gp} {D : Addr} {ho u : HO} (g : HRel K en H G) (h : ¬ Own H G D) (e : H D = some u) (hk : kind u = true) (hen : ∀ e ∈ en,∀ o,e.1 D = some o -> ∃ ps,o = .tbl ps) : HRel K en (L2.upd H D ho) G /\ a9 K H (L2.upd H D ho):=by
 have keepF : ∀ p u',H p = some u' -> kind u' = false -> L2.upd H D ho p = some u':=by
  intro p u' e' h1
  rw [upd_ne ?_]
  . exact e'
  . intro z
    subst z
    rw [e] at e'
    cases e'
    rw [h1] at hk
    cases hk
 have st : a9 K H (L2.upd H D ho):=fun p u' e' h1 _ => keepF p u' e' h1
 have gne : ∀ b o,G b = some o -> b ≠ D:=fun b o q z => h (.inl ⟨o,z ▸ q⟩)
 refine ⟨⟨fun b o q => ?_,fun d n b q r => ?_,g.one,fun e he => (g.hist e he).under (hen e he) h,g.tabs.step keepF⟩,st⟩
 . by_cases hdr : ∃ n,o = .drw n
   . obtain ⟨n,rfl⟩:=hdr
     obtain ⟨lg,it,l,t,ls,is,r⟩:=g.obj b _ q
     have h1 : lg ≠ D:=fun z => h (.inr ⟨b,n,q,lg,it,l,t,r.hd,.inl z.symm⟩)
     have h2 : it ≠ D:=fun z => h (.inr ⟨b,n,q,lg,it,l,t,r.hd,.inr z.symm⟩)
     exact ⟨lg,it,l,t,ls,is,⟨by rw [upd_ne (gne b _ q)]; exact r.hd,by rw [upd_ne h1]; exact r.hlg,by rw [upd_ne h2]; exact r.hit,r.ne,r.lpos,r.ipos,r.ilen,r.llen,r.l0,r.t0,r.tn⟩⟩
   . exact (g.obj b o q).stay st (fun n z => hdr ⟨n,z⟩) (upd_ne (gne b o q))
 . refine g.sep d n b q ?_
   unfold Hid at r ⊢
   rw [upd_ne (gne d _ q)] at r
   exact r
theorem Step.adopt {H0 H : Hp} {G0 G : Gp} {D : Addr} {o : O} (s : Step H0 G0 H G) (h0 : ∀ o,H0 D = some o -> ∃ ps,o = .tbl ps) (hd : ∀ n,o ≠ .drw n) : Step H0 G0 H (gup G D o):=by
 have ne : ∀ a u,H0 a = some u -> (∀ ps,u ≠ .tbl ps) -> a ≠ D:=fun a u e y z => by
  obtain ⟨ps,q⟩:=h0 u (z ▸ e)
  exact y ps q
 refine ⟨fun a u e y n => ?_,s.al⟩
 obtain ⟨h1,h2⟩:=s.fr a u e y n
 refine ⟨h1,fun z => h2 ?_⟩
 rcases z with ⟨u',q⟩ | ⟨d,m,q,r⟩
 . rw [ao (ne a u e y)] at q
   exact .inl ⟨u',q⟩
 . by_cases hz : d = D
   . subst hz
     rw [aH] at q
     exact absurd (Option.some.inj q) (hd m)
   . rw [ao hz] at q
     exact .inr ⟨d,m,q,r⟩
theorem HRel.adopt {K : Fr0} {H : Hp} {G : Gp} {D : Addr} {o : O} (g : HRel K en H G) (h : ¬ Own H G D) (hd : ∀ n,o ≠ .drw n) (r : iz K H D o) (hen : ∀ e ∈ en,∀ o,e.1 D = some o -> ∃ ps,o = .tbl ps) : HRel K en H (gup G D o):=by
 have gdr : ∀ d n,gup G D o d = some (.drw n) -> G d = some (.drw n):=by
  intro d n e
  by_cases z : d = D
  . subst z
    rw [aH] at e
    exact absurd (Option.some.inj e) (hd n)
  . rw [ao z] at e
    exact e
 refine ⟨fun b u e => ?_,fun d n b e q => ?_,fun d d' n n' e e' => g.one d d' n n' (gdr d n e) (gdr d' n' e'),fun e he => (g.hist e he).adopt (hen e he) hd,g.tabs⟩
 . by_cases z : b = D
   . subst z
     rw [aH] at e
     cases e
     exact r
   . rw [ao z] at e
     exact g.obj b u e
 . have e':=gdr d n e
   have hb : b ≠ D:=fun z => h (.inr ⟨d,n,e',z ▸ q⟩)
   rw [ao hb]
   exact g.sep d n b e' q
theorem w4 (σ : L2.St) : ∀ vs : List Nat,L2.wipe (L2.wipe σ vs) vs = L2.wipe σ vs:=by
 have get : ∀ (vs : List Nat) (τ : L2.St) (j : Nat),j ∈ vs -> (L2.wipe τ vs)[j]? = if j < τ.length then some none else none:=by
  intro vs
  induction vs with
  | nil => intro τ j h; cases h
  | cons v vs ih =>
   intro τ j h
   show ((L2.wipe τ vs).set v none)[j]? = _
   by_cases e : v = j
   . subst e
     by_cases hl : v < τ.length
     . rw [if_pos hl,List.getElem?_set_self (by rw [L2.wipe_length]; exact hl)]
     . rw [if_neg hl,List.getElem?_eq_none (by rw [List.length_set,L2.wipe_length]; omega)]
   . rw [List.getElem?_set_ne e]
     exact ih τ j ((List.mem_cons.mp h).resolve_left fun z => e z.symm)
 intro vs
 apply List.ext_getElem?
 intro j
 by_cases h : j ∈ vs
 . rw [get vs _ j h,get vs _ j h,L2.wipe_length]
 . rw [L2.wipe_out h]
structure ItOk (K : Fr0) (en : En) (J : It) (items : List T) (Keep : Gp -> Prop) (kh : Hp -> Prop) : Prop where
 stab : ∀ H H',a9 K H H' -> kh H -> kh H'
 go : ∀ (i : Nat) H G,HRel K en H G -> Keep G -> kh H -> i < items.length -> J.go i H
 stop : ∀ (i : Nat) H G,HRel K en H G -> Keep G -> kh H -> items.length <= i -> J.stop i H
 yld : ∀ (i : Nat) H G x H',HRel K en H G -> Keep G -> kh H -> J.yld i H x H' -> i < items.length -> ∃ t,items[i]? = some t /\ Rel K H' x t /\ HRel K en H' G /\ Step H G H' G
abbrev LI:=S2 -> Gp -> (List T -> (Gp -> Prop) -> Gp -> Prop) -> Prop
def sO (K : Fr0) (en : En) (li : LI) : TI:=fun σ H R => ∃ S G Ψ,SRel K H σ S /\ HRel K en H G /\ li S G Ψ /\ ∀ items Keep G' H' J kh,Ψ items Keep G' -> HRel K en H' G' -> Step H G H' G' -> ItOk K en J items Keep kh -> kh H' -> R J H'
def Ei (en : En) (X : Cx) (tg iter : Expr) (li : LI) : Prop:=PI X tg iter (sO X.K en li)
def fA (L : LEnds) (f : T -> S2 -> Option S2) (b : LS) (Keep : Gp -> Prop) : List T -> S2 -> Gp -> Prop
 | [],S,G => Keep G /\ L.nx S G
 | t :: r,S,G => Keep G /\ match f t S with
  | some S' => b { L with nx:=fun S1 G1 => ∃ G0,Sub G0 G1 /\ fA L f b Keep r S1 G0,ct:=fun S1 G1 => ∃ G0,Sub G0 G1 /\ fA L f b Keep r S1 G0,bk:=L.nx } S' G
  | none => False
def lQ (li : LI) (f : T -> S2 -> Option S2) (b : LS) : LS:=fun L S G => li S G fun items Keep G1 => fA L f b Keep items S G1
def abQ (c : LT) (b : LS) : LS:=fun L S G => ∃ W : Nat -> S2 -> Gp -> Prop,(∃ m,W m S G) /\ ∀ m S G,W m S G ->
 c S G fun k G1 => ∃ G1',Sub G1' G1 /\ if k = true then b { L with nx:=fun S' G' => ∃ m' G0,m' < m /\ Sub G0 G' /\ W m' S' G0,ct:=fun S' G' => ∃ m' G0,m' < m /\ Sub G0 G' /\ W m' S' G0,bk:=L.nx } S G1' else L.nx S G1'
def fj (Keep : Gp -> Prop) (f : T -> S2 -> Option S2) (vs : List Nat) (tt : LT) (te : LE) (Fin : List T -> Gp -> Prop) (S : S2) : List T -> List T -> Gp -> Prop
 | [],acc,G => Keep G /\ Fin acc G
 | t :: r,acc,G => Keep G /\ match f t (bY S vs) with
  | some S2 => tt S2 G fun b G1 => if b = true then te S2 G1 fun y G2 => acc.length < sizeLine /\ ∃ G0,Sub G0 G2 /\ fj Keep f vs tt te Fin S r (acc ++ [y]) G0 else ∃ G0,Sub G0 G1 /\ fj Keep f vs tt te Fin S r acc G0
  | none => False
def fH (li : LI) (f : T -> S2 -> Option S2) (vs : List Nat) (tt : LT) (te : LE) : LE:=fun S G Φ => li S G fun items Keep G1 =>
 fj Keep f vs tt te (fun acc G' => ∀ p,G' p = none -> Φ (.ref p) (gup G' p (.lst acc))) S items [] G1
def fO (Keep : Gp -> Prop) (f : T -> S2 -> Option S2) (vs : List Nat) (tt : LT) (tk tv : LE) (Fin : List (T × T) -> Gp -> Prop) (S : S2) : List T -> List (T × T) -> Gp -> Prop
 | [],acc,G => Keep G /\ Fin acc G
 | t :: r,acc,G => Keep G /\ match f t (bY S vs) with
  | some S2 => tt S2 G fun b G1 => if b = true then tk S2 G1 fun y G2 => tv S2 G2 fun z G3 => acc.length < sizeLine /\ (bK y).isSome = true /\ ∃ G0,Sub G0 G3 /\ fO Keep f vs tt tk tv Fin S r (dput acc y z) G0 else ∃ G0,Sub G0 G1 /\ fO Keep f vs tt tk tv Fin S r acc G0
  | none => False
def lm (li : LI) (f : T -> S2 -> Option S2) (vs : List Nat) (tt : LT) (tk tv : LE) : LE:=fun S G Φ => li S G fun items Keep G1 =>
 fO Keep f vs tt tk tv (fun acc G' => ∀ p,G' p = none -> Φ (.ref p) (gup G' p (.dic acc))) S items [] G1
def kQ : LT:=fun _ G Φ => Φ true G
def gX (en : En) (X : Cx) (ifs : List Expr) (t : LT) : Prop:=PTs X ifs (gC X.K en t)
section
variable {X : Cx} {a b c e o i elt tg iter : Expr} {es : List Expr} {st : Stmt} {ss ss2 : List Stmt} {la lb lo li lk lv : LE} {l : LA} {tl : LT} {pos p2 : Pos} {ls ms : LS} {w : LI} {f : T -> S2 -> Option S2} {vs : List Nat}
theorem PI.weak {t t' : TI} (h : PI X tg e t) (w : ∀ σ H Q,t' σ H Q -> t σ H Q) : PI X tg e t':=⟨fun pins s σ H Q I q => h.run pins s σ H Q I (w σ H Q q)⟩
theorem PTs.weak {ifs : List Expr} {t t' : TT} (h : PTs X ifs t) (w : ∀ σ H Q,t' σ H Q -> t σ H Q) : PTs X ifs t':=⟨fun pins s σ H Q I q => h.run pins s σ H Q I (w σ H Q q)⟩
theorem jr : gX en X [] kQ:=PTs.weak pts_nil fun σ H Q ⟨S,G,Φ,s,g,q,k⟩ => k true G H q g (Step.refl H G)
theorem wW (h : Et en X c tl) : gX en X [c] tl:=pts_one h
theorem s_while (hp : PassesOwn (model X.prog X.w) X.A X.env X.xe) (hc : Et en X c tl) (hb : dj en X ss ls) : Es en X (.While c ss [] pos) (abQ tl ls):=by
 refine PS.weak (ps_while hp hc hb) fun D σ H ⟨S,G,L,s,g,⟨W,⟨m0,w0⟩,hW⟩,ends⟩ => ?_
 refine ⟨fun m σ' H' => ∃ S' G',SRel X.K H' σ' S' /\ HRel X.K en H' G' /\ Step H G H' G' /\ W m S' G',⟨m0,S,G,s,g,Step.refl H G,w0⟩,?_⟩
 rintro m σ1 H1 ⟨S1,G1,s1,g1,t1,w1⟩
 refine ⟨S1,G1,_,s1,g1,hW m S1 G1 w1,fun k G2 H2 q2 g2 t2 => ?_⟩
 obtain ⟨G2',sb2,q2⟩:=q2
 replace g2:=g2.sub sb2
 replace t2:=t2.sub sb2
 clear sb2 G2
 revert G2'
 intro G2 q2 g2 t2
 cases k with
 | true =>
  refine ⟨fun σ' H' => ∃ m',m' < m /\ ∃ S' G',SRel X.K H' σ' S' /\ HRel X.K en H' G' /\ Step H G H' G' /\ W m' S' G',fun σ' H' ⟨m',hm,r⟩ => ⟨m',hm,r⟩,?_⟩
  have t12:=t1.trans t2
  refine ⟨S1,G2,_,s1.stay (t2.stay g1),g2,q2,⟨fun S3 G3 σ3 H3 q3 s3 g3 t3 => ?_,(ends.step t12).rt,fun S3 G3 σ3 H3 q3 s3 g3 t3 => (ends.step t12).nx S3 G3 σ3 H3 q3 s3 g3 t3,fun S3 G3 σ3 H3 q3 s3 g3 t3 => ?_⟩⟩
  . obtain ⟨m',G0,hm,sb,w3⟩:=q3
    exact ⟨m',hm,S3,G0,s3,g3.sub sb,(t12.trans t3).sub sb,w3⟩
  . obtain ⟨m',G0,hm,sb,w3⟩:=q3
    exact ⟨m',hm,S3,G0,s3,g3.sub sb,(t12.trans t3).sub sb,w3⟩
 | false => exact ends.nx S1 G2 σ1 H2 q2 (s1.stay (t2.stay g1)) g2 (t1.trans t2)
theorem pW (hp : PassesOwn (model X.prog X.w) X.A X.env X.xe) (hc : X.calm = true) (hi : Ei en X tg iter w) (hg : Eg X tg f vs) (hb : dj en X ss ls)
 (hs : ∀ x,foldedSetIterable iter X.env x = pure x:=by intro _; rfl) : Es en X (.For tg iter ss [] pos) (lQ w f ls):=by
 refine PS.weak (ps_for hp hc hi hg hb hs) fun D σ H ⟨S,G,L,s,g,q,ends⟩ => ?_
 refine ⟨S,G,_,s,g,q,fun items Keep G1 H1 J kh q1 g1 s1 ok kh1 => ?_⟩
 refine ⟨fun i m σ' H' => m = items.length - i /\ i <= items.length /\ kh H' /\ ∃ S' G',SRel X.K H' σ' S' /\ HRel X.K en H' G' /\ Step H G H' G' /\ fA L f ls Keep (items.drop i) S' G',
  ⟨items.length,rfl,Nat.zero_le _,kh1,S,G1,s.stay (s1.stay g),g1,s1,q1⟩,?_⟩
 rintro i m σ2 H2 ⟨rfl,hi,kh2,S2,G2,s2,g2,t2,q2⟩
 by_cases hlt : i < items.length
 . rw [List.drop_eq_getElem_cons hlt] at q2
   obtain ⟨kp,q2⟩:=q2
   refine .inr ⟨ok.go i H2 G2 g2 kp kh2 hlt,fun σ' H' => ∃ m',m' < items.length - i /\ (m' = items.length - (i + 1) /\ i + 1 <= items.length /\ kh H' /\ ∃ S' G',SRel X.K H' σ' S' /\ HRel X.K en H' G' /\ Step H G H' G' /\ fA L f ls Keep (items.drop (i + 1)) S' G'),fun σ' H' h => h,fun x H3 y => ?_⟩
   obtain ⟨t,et,rt,g3,t3⟩:=ok.yld i H2 G2 x H3 g2 kp kh2 y hlt
   rw [List.getElem?_eq_getElem hlt] at et
   cases et
   split at q2
   . rename_i S3 e3
     have st:=t3.stay g2
     refine ⟨_,S2,S3,rt,s2.stay st,e3,fun σ3 s3 _ => ?_⟩
     have t23:=t2.trans t3
     have again : ∀ S4 G4 σ4 H4,(∃ G0,Sub G0 G4 /\ fA L f ls Keep (items.drop (i + 1)) S4 G0) -> SRel X.K H4 σ4 S4 -> HRel X.K en H4 G4 -> Step H3 G2 H4 G4 ->
         ∃ m',m' < items.length - i /\ (m' = items.length - (i + 1) /\ i + 1 <= items.length /\ kh H4 /\ ∃ S' G',SRel X.K H4 σ4 S' /\ HRel X.K en H4 G' /\ Step H G H4 G' /\ fA L f ls Keep (items.drop (i + 1)) S' G') :=
      fun S4 G4 σ4 H4 ⟨G0,sb,q4⟩ s4 g4 t4 => ⟨_,by omega,rfl,hlt,ok.stab _ _ (t4.stay g3) (ok.stab _ _ st kh2),S4,G0,s4,g4.sub sb,(t23.trans t4).sub sb,q4⟩
     exact ⟨S3,G2,_,s3,g3,q2,⟨again,(ends.step t23).rt,fun S4 G4 σ4 H4 q4 s4 g4 t4 => (ends.step t23).nx S4 G4 σ4 H4 q4 s4 g4 t4,again⟩⟩
   . exact q2.elim
 . have e : i = items.length:=by omega
   subst e
   rw [List.drop_length] at q2
   exact .inl ⟨ok.stop _ H2 G2 g2 q2.1 kh2 (Nat.le_refl _),ends.nx S2 G2 σ2 H2 q2.2 s2 g2 t2⟩
theorem yu {K : Fr0} {tt : LT} {te : LE} : ∀ σ H Q,low K en (fH w f vs tt te) σ H Q -> tLc (sO K en w) (kg K f vs) (gC K en tt) (low K en te) vs σ H Q:=by
 intro σ H Q ⟨S,G,Φ,s,g,q,k⟩
 refine ⟨S,G,_,s,g,q,fun items Keep G1 H1 J kh q1 g1 s1 ok kh1 D hD => ?_⟩
 have hD0 : ∀ o,H D = some o -> ∃ ps,o = .tbl ps:=by
  intro o e
  refine Classical.byContradiction fun y => ?_
  obtain ⟨u',e',_⟩:=s1.al D o e fun ps z => y ⟨ps,z⟩
  rw [hD] at e'
  cases e'
 have hen : ∀ e ∈ en,∀ o,e.1 D = some o -> ∃ ps,o = .tbl ps:=by
  intro e he o z
  refine Classical.byContradiction fun y => ?_
  obtain ⟨u',e',y'⟩:=(g.hist e he).al D o z fun ps z => y ⟨ps,z⟩
  obtain ⟨ps,q⟩:=hD0 _ e'
  exact y' ps q
 obtain ⟨g1',t1',st1'⟩:=g1.laid (ho:=.lst []) hD
 have no1 : ¬ Own (L2.upd H1 D (.lst [])) G1 D:=fun z => j4 g1 hD ((gU (j4 g1 hD)).mp z)
 refine ⟨fun i m H' => m = items.length - i /\ i <= items.length /\ kh H' /\ ∃ acc accT G',H' D = some (.lst acc) /\ RelL K H' acc accT /\ HRel K en H' G' /\ ¬ Own H' G' D /\ Step H G H' G' /\
     fj Keep f vs tt te (fun acc G' => ∀ p,G' p = none -> Φ (.ref p) (gup G' p (.lst acc))) S (items.drop i) accT G',
  ⟨items.length,rfl,Nat.zero_le _,ok.stab _ _ st1' kh1,[],[],G1,upd_same,.nil,g1',no1,s1.trans t1',q1⟩,?_⟩
 rintro i m H2 ⟨rfl,hi,kh2,acc,accT,G2,hacc,racc,g2,no2,t2,q2⟩
 by_cases hlt : i < items.length
 . rw [List.drop_eq_getElem_cons hlt] at q2
   obtain ⟨kp,q2⟩:=q2
   refine .inr ⟨ok.go i H2 G2 g2 kp kh2 hlt,fun H' => ∃ m',m' < items.length - i /\ (m' = items.length - (i + 1) /\ i + 1 <= items.length /\ kh H' /\ ∃ acc accT G',H' D = some (.lst acc) /\ RelL K H' acc accT /\ HRel K en H' G' /\ ¬ Own H' G' D /\ Step H G H' G' /\
    fj Keep f vs tt te (fun acc G' => ∀ p,G' p = none -> Φ (.ref p) (gup G' p (.lst acc))) S (items.drop (i + 1)) accT G'),fun H' h => h,fun x H3 y => ?_⟩
   obtain ⟨t,et,rt,g3,t3⟩:=ok.yld i H2 G2 x H3 g2 kp kh2 y hlt
   rw [List.getElem?_eq_getElem hlt] at et
   cases et
   obtain ⟨hacc3,no3⟩:=t3.fr D _ hacc (fun ps z => by cases z) no2
   have st3:=t3.stay g2
   have t23:=t2.trans t3
   split at q2
   . rename_i S3 e3
     refine ⟨_,bY S vs,S3,rt,((s.stay (t23.stay g)).wipe vs),e3,fun σ3 s3 hk3 => ⟨?_,?_⟩⟩
     . have e1:=hk3 vs (fun _ h => h)
       rw [e1]
       exact w4 σ vs
     . refine ⟨S3,G2,_,s3,g3,q2,fun bb G4 H4 q4 g4 t4 => ?_⟩
       obtain ⟨hacc4,no4⟩:=t4.fr D _ hacc3 (fun ps z => by cases z) no3
       have st4:=t4.stay g3
       have t24:=t23.trans t4
       have kh4:=ok.stab _ _ st4 (ok.stab _ _ st3 kh2)
       cases bb with
       | true =>
        have q4 : te S3 G4 fun y G2 => accT.length < sizeLine /\ ∃ G0,Sub G0 G2 /\ fj Keep f vs tt te (fun acc G' => ∀ p,G' p = none -> Φ (.ref p) (gup G' p (.lst acc))) S (items.drop (i + 1)) (accT ++ [y]) G0:=q4
        refine ⟨S3,G4,_,s3.stay st4,g4,q4,fun ty G5 vy H5 q5 r5 g5 t5 => ?_⟩
        obtain ⟨hacc5,no5⟩:=t5.fr D _ hacc4 (fun ps z => by cases z) no4
        have st5:=t5.stay g4
        have racc5:=((racc.stay st3).stay st4).stay st5
        obtain ⟨g6,st6⟩:=g5.under (ho:=.lst (acc ++ [vy])) no5 hacc5 rfl hen
        obtain ⟨q5a,G0,sb,q5⟩:=q5
        refine ⟨acc,hacc5,by rw [racc.length]; exact q5a,_,by omega,rfl,hlt,ok.stab _ _ st6 (ok.stab _ _ st5 kh4),acc ++ [vy],accT ++ [ty],G0,upd_same,(racc5.app (.cons r5 .nil)).stay st6,g6.sub sb,fun z => no5 ((gU no5).mp (kH sb z)),((t24.trans t5).under hD0 no5).sub sb,q5⟩
       | false =>
        obtain ⟨G0,sb,q4⟩:=(show ∃ G0,Sub G0 G4 /\ fj Keep f vs tt te (fun acc G' => ∀ p,G' p = none -> Φ (.ref p) (gup G' p (.lst acc))) S (items.drop (i + 1)) accT G0 from q4)
        exact ⟨_,by omega,rfl,hlt,kh4,acc,accT,G0,hacc4,(racc.stay st3).stay st4,g4.sub sb,fun z => no4 (kH sb z),t24.sub sb,q4⟩
   . exact q2.elim
 . have e : i = items.length:=by omega
   subst e
   rw [List.drop_length] at q2
   have gD : G2 D = none:=by
    cases z : G2 D with
    | none => rfl
    | some u => exact absurd (.inl ⟨u,z⟩) no2
   refine .inl ⟨ok.stop _ H2 G2 g2 q2.1 kh2 (Nat.le_refl _),k _ _ _ _ (q2.2 D gD) (.ref D) (g2.adopt no2 (fun n z => by cases z) ⟨acc,hacc,racc⟩ hen) (t2.adopt hD0 (fun n z => by cases z))⟩
theorem ab2 {K : Fr0} {tt : LT} {tk tv : LE} : ∀ σ H Q,low K en (lm w f vs tt tk tv) σ H Q -> tDc (sO K en w) (kg K f vs) (gC K en tt) (low K en tk) (low K en tv) vs σ H Q:=by
 intro σ H Q ⟨S,G,Φ,s,g,q,k⟩
 refine ⟨S,G,_,s,g,q,fun items Keep G1 H1 J kh q1 g1 s1 ok kh1 D hD => ?_⟩
 have hD0 : ∀ o,H D = some o -> ∃ ps,o = .tbl ps:=by
  intro o e
  refine Classical.byContradiction fun y => ?_
  obtain ⟨u',e',_⟩:=s1.al D o e fun ps z => y ⟨ps,z⟩
  rw [hD] at e'
  cases e'
 have hen : ∀ e ∈ en,∀ o,e.1 D = some o -> ∃ ps,o = .tbl ps:=by
  intro e he o z
  refine Classical.byContradiction fun y => ?_
  obtain ⟨u',e',y'⟩:=(g.hist e he).al D o z fun ps z => y ⟨ps,z⟩
  obtain ⟨ps,q⟩:=hD0 _ e'
  exact y' ps q
 obtain ⟨g1',t1',st1'⟩:=g1.laid (ho:=.dK []) hD
 have no1 : ¬ Own (L2.upd H1 D (.dK [])) G1 D:=fun z => j4 g1 hD ((gU (j4 g1 hD)).mp z)
 refine ⟨fun i m H' => m = items.length - i /\ i <= items.length /\ kh H' /\ ∃ acc accT G',H' D = some (.dK acc) /\ RelD K H' acc accT /\ HRel K en H' G' /\ ¬ Own H' G' D /\ Step H G H' G' /\
     fO Keep f vs tt tk tv (fun acc G' => ∀ p,G' p = none -> Φ (.ref p) (gup G' p (.dic acc))) S (items.drop i) accT G',
  ⟨items.length,rfl,Nat.zero_le _,ok.stab _ _ st1' kh1,[],[],G1,upd_same,.nil,g1',no1,s1.trans t1',q1⟩,?_⟩
 rintro i m H2 ⟨rfl,hi,kh2,acc,accT,G2,hacc,racc,g2,no2,t2,q2⟩
 by_cases hlt : i < items.length
 . rw [List.drop_eq_getElem_cons hlt] at q2
   obtain ⟨kp,q2⟩:=q2
   refine .inr ⟨ok.go i H2 G2 g2 kp kh2 hlt,fun H' => ∃ m',m' < items.length - i /\ (m' = items.length - (i + 1) /\ i + 1 <= items.length /\ kh H' /\ ∃ acc accT G',H' D = some (.dK acc) /\ RelD K H' acc accT /\ HRel K en H' G' /\ ¬ Own H' G' D /\ Step H G H' G' /\
    fO Keep f vs tt tk tv (fun acc G' => ∀ p,G' p = none -> Φ (.ref p) (gup G' p (.dic acc))) S (items.drop (i + 1)) accT G'),fun H' h => h,fun x H3 y => ?_⟩
   obtain ⟨t,et,rt,g3,t3⟩:=ok.yld i H2 G2 x H3 g2 kp kh2 y hlt
   rw [List.getElem?_eq_getElem hlt] at et
   cases et
   obtain ⟨hacc3,no3⟩:=t3.fr D _ hacc (fun ps z => by cases z) no2
   have st3:=t3.stay g2
   have t23:=t2.trans t3
   split at q2
   . rename_i S3 e3
     refine ⟨_,bY S vs,S3,rt,((s.stay (t23.stay g)).wipe vs),e3,fun σ3 s3 hk3 => ⟨?_,?_⟩⟩
     . have e1:=hk3 vs (fun _ h => h)
       rw [e1]
       exact w4 σ vs
     . refine ⟨S3,G2,_,s3,g3,q2,fun bb G4 H4 q4 g4 t4 => ?_⟩
       obtain ⟨hacc4,no4⟩:=t4.fr D _ hacc3 (fun ps z => by cases z) no3
       have st4:=t4.stay g3
       have t24:=t23.trans t4
       have kh4:=ok.stab _ _ st4 (ok.stab _ _ st3 kh2)
       cases bb with
       | true =>
        have q4 : tk S3 G4 fun y G2 => tv S3 G2 fun z G3 => accT.length < sizeLine /\ (bK y).isSome = true /\ ∃ G0,Sub G0 G3 /\ fO Keep f vs tt tk tv (fun acc G' => ∀ p,G' p = none -> Φ (.ref p) (gup G' p (.dic acc))) S (items.drop (i + 1)) (dput accT y z) G0:=q4
        refine ⟨S3,G4,_,s3.stay st4,g4,q4,fun ty G5 vy H5 q5 r5 g5 t5 => ?_⟩
        obtain ⟨hacc5,no5⟩:=t5.fr D _ hacc4 (fun ps z => by cases z) no4
        have st5:=t5.stay g4
        refine ⟨S3,G5,_,(s3.stay st4).stay st5,g5,q5,fun tz G6 vz H6 q6 r6 g6 t6 => ?_⟩
        obtain ⟨hacc6,no6⟩:=t6.fr D _ hacc5 (fun ps z => by cases z) no5
        have st6:=t6.stay g5
        have racc6:=(((racc.stay st3).stay st4).stay st5).stay st6
        obtain ⟨hl,hk,G0,sb,q6⟩:=q6
        obtain ⟨k0,ek⟩:=Option.isSome_iff_exists.mp hk
        have eu:=f7 ek
        subst eu
        obtain ⟨g7,st7⟩:=g6.under (ho:=.dK (putK acc k0 vz)) no6 hacc6 rfl hen
        refine ⟨acc,k0,r5.key,hacc6,by rw [racc.length]; exact hl,_,by omega,rfl,hlt,ok.stab _ _ st7 (ok.stab _ _ st6 (ok.stab _ _ st5 kh4)),putK acc k0 vz,dput accT (kT k0) tz,G0,upd_same,(racc6.put r6).stay st7,g7.sub sb,fun z => no6 ((gU no6).mp (kH sb z)),(((t24.trans t5).trans t6).under hD0 no6).sub sb,q6⟩
       | false =>
        obtain ⟨G0,sb,q4⟩:=(show ∃ G0,Sub G0 G4 /\ fO Keep f vs tt tk tv (fun acc G' => ∀ p,G' p = none -> Φ (.ref p) (gup G' p (.dic acc))) S (items.drop (i + 1)) accT G0 from q4)
        exact ⟨_,by omega,rfl,hlt,kh4,acc,accT,G0,hacc4,(racc.stay st3).stay st4,g4.sub sb,fun z => no4 (kH sb z),t24.sub sb,q4⟩
   . exact q2.elim
 . have e : i = items.length:=by omega
   subst e
   rw [List.drop_length] at q2
   have gD : G2 D = none:=by
    cases z : G2 D with
    | none => rfl
    | some u => exact absurd (.inl ⟨u,z⟩) no2
   refine .inl ⟨ok.stop _ H2 G2 g2 q2.1 kh2 (Nat.le_refl _),k _ _ _ _ (q2.2 D gD) (.ref D) (g2.adopt no2 (fun n z => by cases z) ⟨acc,hacc,racc⟩ hen) (t2.adopt hD0 (fun n z => by cases z))⟩
end
end Dv
noncomputable section
namespace Dv
open PySem L2 PyProof.Rows RZ
variable [Dv.Wld]
section
variable {X : Cx} {a b c e o i elt tg iter : Expr} {es : List Expr} {st : Stmt} {la lb : LE} {l : LA} {pos p p2 apos cpos tpos : Pos} {ls : LS} {elts : List Expr} {kk : Nat}
abbrev RIT:=T -> Gp -> (List T -> (Gp -> Prop) -> Gp -> Prop) -> Prop
def d8 : RIT
 | .tup ts,G,Ψ => Ψ ts (fun _ => True) G
 | .str z,G,Ψ => Ψ (z.cps.toList.map fun c => T.str ⟨#[c]⟩) (fun _ => True) G
 | .ref a,G,Ψ => match G a with
  | some (.lst xs) => Ψ xs (fun G' => G' a = some (.lst xs)) G
  | some (.fdic ob raw kvs) => Ψ (kvs.map (·.1)) (fun G' => G' a = some (.fdic ob raw kvs)) G
  | some (.fdicN ob raw kvs) => Ψ (kvs.map (·.1)) (fun G' => G' a = some (.fdicN ob raw kvs)) G
  | _ => False
 | _,_,_ => False
def fB (la : LE) : LI:=fun S G Ψ => la S G fun t G1 => d8 t G1 Ψ
theorem ade {K : Fr0} {en : En} {a : Addr} {xs : List T} : ItOk K en (Itl K a) xs (fun G' => G' a = some (.lst xs)) (fun _ => True) where
 stab:=fun _ _ _ h => h
 go:=fun i H G g kp _ hi => by
  obtain ⟨vs,h1,r⟩:=g.obj a _ kp
  obtain ⟨v,h2,_⟩:=r.get (List.getElem?_eq_getElem hi)
  exact ⟨vs,v,SqL.of h1,h2⟩
 stop:=fun i H G g kp _ hi => by
  obtain ⟨vs,h1,r⟩:=g.obj a _ kp
  exact ⟨vs,SqL.of h1,by rw [r.length]; exact hi⟩
 yld:=fun i H G x H' g kp _ y hi => by
  obtain ⟨e,y⟩:=y
  subst e
  obtain ⟨vs,h1,r⟩:=g.obj a _ kp
  obtain ⟨t,h2,h3⟩:=r.getV (y vs (SqL.of h1))
  exact ⟨t,h2,h3,g,Step.refl _ _⟩
theorem aeN {K : Fr0} {en : En} {a : Addr} {vs : List V} {xs : List T} : ItOk K en (Itt K a) xs (fun _ => True) (fun H => SqT K H a vs /\ RelL K H vs xs) where
 stab:=fun H H' st h => ⟨st.tup h.1,h.2.stay st⟩
 go:=fun i H G g _ kh hi => by
  obtain ⟨h1,r⟩:=kh
  obtain ⟨v,h2,_⟩:=r.get (List.getElem?_eq_getElem hi)
  exact ⟨vs,v,h1,h2⟩
 stop:=fun i H G g _ kh hi => ⟨vs,kh.1,by rw [kh.2.length]; exact hi⟩
 yld:=fun i H G x H' g _ kh y hi => by
  obtain ⟨e,y⟩:=y
  subst e
  obtain ⟨t,h2,h3⟩:=kh.2.getV (y vs kh.1)
  exact ⟨t,h2,h3,g,Step.refl _ _⟩
theorem aaB {K : Fr0} {en : En} {z : Str} : ItOk K en (Its z) (z.cps.toList.map fun c => T.str ⟨#[c]⟩) (fun _ => True) (fun _ => True) where
 stab:=fun _ _ _ h => h
 go:=fun i H G g _ _ hi => by
  show i < z.cps.size
  simpa using hi
 stop:=fun i H G g _ _ hi => by
  show z.cps.size <= i
  simpa using hi
 yld:=fun i H G x H' g _ _ y hi => by
  obtain ⟨e,c,h,ex⟩:=y
  subst e ex
  exact ⟨.str ⟨#[c]⟩,by rw [List.getElem?_map,Array.getElem?_toList,h]; rfl,.str _,g,Step.refl _ _⟩
theorem RelD.keys {K : Fr0} {H : Hp} : ∀ {vs : List (Key × V)} {ts : List (T × T)} {i : Nat} {k : Key} {v : V},RelD K H vs ts -> vs[i]? = some (k,v) -> (ts.map (·.1))[i]? = some (kT k)
 | _,_,i,k,v,.nil,e => by simp at e
 | _,_,0,k,v,.cons _ _,e => by
  simp at e
  obtain ⟨e1,_⟩:=e
  subst e1
  simp
 | _,_,i + 1,k,v,.cons _ r,e => by
  have:=RelD.keys (i:=i) (k:=k) (v:=v) r (by simpa using e)
  simpa using this
theorem aee {K : Fr0} {H : Hp} : ∀ k : Key,Rel K H (kV k) (kT k)
 | .inl i => .int i
 | .inr x => .str x
theorem afr {K : Fr0} {en : En} {d : Addr} {ob : Obj} {raw : List (Key × V)} {kvs : List (T × T)} : ItOk K en (Itk d ob raw) (kvs.map (·.1)) (fun G' => G' d = some (.fdic ob raw kvs)) (fun _ => True) where
 stab:=fun _ _ _ h => h
 go:=fun i H G g kp _ hi => by
  obtain ⟨h1,r⟩:=g.obj d _ kp
  exact ⟨h1,by rw [r.length]; simpa using hi⟩
 stop:=fun i H G g kp _ hi => by
  obtain ⟨h1,r⟩:=g.obj d _ kp
  exact ⟨h1,by rw [r.length]; simpa using hi⟩
 yld:=fun i H G x H' g kp _ y hi => by
  obtain ⟨e,k,v,h,ex⟩:=y
  subst e ex
  obtain ⟨h1,r⟩:=g.obj d _ kp
  exact ⟨kT k,r.keys h,aee k,g,Step.refl _ _⟩
theorem RelN.keys {K : Fr0} {H : Hp} : ∀ {vs : List (NestedKey × Addr × V)} {ts : List (T × T)} {i : Nat} {p : NestedKey × Addr × V},RelN K H vs ts -> vs[i]? = some p -> ∃ kt,(ts.map (·.1))[i]? = some kt /\ Rel K H (.ref p.2.1) kt
 | _,_,i,p,.nil,e => by simp at e
 | _,_,0,p,.cons (kt:=kt) a _ _ _ _,e => by
  simp at e
  subst e
  exact ⟨kt,by simp,a⟩
 | _,_,i + 1,p,.cons _ _ _ _ r,e => by
  obtain ⟨kt,h1,h2⟩:=RelN.keys (i:=i) (p:=p) r (by simpa using e)
  exact ⟨kt,by simpa using h1,h2⟩
theorem abC {K : Fr0} {en : En} {d : Addr} {ob : Obj} {raw : List (NestedKey × Addr × V)} {kvs : List (T × T)} : ItOk K en (Itn Dv.Wld.w d ob raw) (kvs.map (·.1)) (fun G' => G' d = some (.fdicN ob raw kvs)) (fun _ => True) where
 stab:=fun _ _ _ h => h
 go:=fun i H G g kp _ hi => by
  obtain ⟨h1,r⟩:=g.obj d _ kp
  exact ⟨h1,by rw [r.length]; simpa using hi⟩
 stop:=fun i H G g kp _ hi => by
  obtain ⟨h1,r⟩:=g.obj d _ kp
  exact ⟨h1,by rw [r.length]; simpa using hi⟩
 yld:=fun i H G x H' g kp _ y hi => by
  obtain ⟨e,p,h,ex⟩:=y
  subst e ex
  obtain ⟨h1,r⟩:=g.obj d _ kp
  obtain ⟨kt,h2,h3⟩:=r.keys h
  exact ⟨kt,h2,h3,g,Step.refl _ _⟩
theorem aeG {pins : List (Addr × Obj)} {s : Shared} {σ : L2.St} {H : Hp} {x : V} {v : Value} {R : It -> Hp -> Prop} {t : T} {G : Gp} {en : En} {Ψ : List T -> (Gp -> Prop) -> Gp -> Prop} (I : Inv X pins σ H s) (rv : RelV x v) (rt : Rel X.K H x t) (g : HRel X.K en H G) (q : d8 t G Ψ) (hw : X.w = Dv.Wld.w)
 (k : ∀ items Keep J kh,Ψ items Keep G -> ItOk X.K en J items Keep kh -> kh H -> R J H) : wpAny (model X.prog X.w) X.A (pyIter v) (PIE X pins σ tg R) X.xe s:=by
 cases rt with
 | @tup pp xs ts hs rs =>
  cases rv
  obtain ⟨its,r1,pt,hz⟩:=I.tuple hs
  refine wpAny_pyIter_tuple (show s.heap.IsTuple pp its.toArray from pt) ?_
  exact pi_one (tk:=s.toks) I _ (turn_tuple pp _) ⟨_,Heap.get?_push_size _ rfl,rfl,rfl⟩ (k _ _ _ _ q aeN ⟨hs,rs⟩)
 | str z =>
  obtain ⟨tk,rfl⟩:=rv
  have q':=k _ _ _ _ q aaB True.intro
  cases ha : z.cps.all (· < 128)
  . exact wpAny_pyIter_wide ha (pi_one (tk:=s.toks) I _ (turn_str _ z tk "str_iterator" (.inr rfl)) ⟨_,Heap.get?_push_size _ rfl,rfl,rfl⟩ q')
  . exact wpAny_pyIter_ascii ha (pi_one (tk:=s.toks) I _ (turn_str _ z tk "str_ascii_iterator" (.inl rfl)) ⟨_,Heap.get?_push_size _ rfl,rfl,rfl⟩ q')
 | ref p =>
  cases rv
  simp only [d8] at q
  split at q
  . rename_i xs e
    obtain ⟨vs,h1,r1⟩:=g.obj _ _ e
    obtain ⟨its,r2,pl,hz⟩:=I.list (SqL.of h1)
    refine wpAny_pyIter_list pl.isList ?_
    exact pi_one (tk:=s.toks) I _ (turn_list p _) ⟨_,Heap.get?_push_size _ rfl,rfl,rfl⟩ (k _ _ _ _ q ade True.intro)
  . rename_i ob raw kvs e
    obtain ⟨h1,r1⟩:=g.obj _ _ e
    obtain ⟨hs,hgd,hx,es,ep,vs,hdt,hsz,kv,hm⟩:=I.frzK h1
    refine iter_keys hs hgd hx hdt (pi_one (tk:=s.toks) I _ (turn_keys _ hdt) ⟨_,Heap.get?_push_size _ rfl,rfl,?_⟩ (k _ _ _ _ q afr True.intro))
    rw [hsz] <;> rfl
  . rename_i ob raw kvs e
    obtain ⟨h1,r1⟩:=g.obj _ _ e
    rw [<- hw] at h1
    obtain ⟨hs,hgd,hx,es,ep,hdt,hsz,ent⟩:=tO I h1
    refine iter_keys hs hgd hx hdt (pi_one (tk:=s.toks) I _ (ad5 _ hdt) ⟨_,Heap.get?_push_size _ rfl,rfl,?_⟩ (k _ _ (Itn X.w p ob raw) _ q (by rw [hw]; exact abC) True.intro))
    rw [hsz] <;> rfl
  . exact q.elim
 | _ => exact q.elim
theorem gh (h : E en X e la) (hw : X.w = Dv.Wld.w:=by rfl) : Ei en X tg e (fB la):=by
 refine ⟨fun pins s σ H R I ⟨S,G,Ψ,sr,g,q,k⟩ => ?_⟩
 refine thn (h.run pins s σ H (fun v H' => ∃ t G',d8 t G' Ψ /\ Rel X.K H' v t /\ HRel X.K en H' G' /\ Step H G H' G') I ⟨S,G,_,sr,g,q,fun t G' v H' a b c d => ⟨t,G',a,b,c,d⟩⟩) fun v s1 ⟨x,H1,I1,r1,t,G1,q1,rt,g1,s1'⟩ => ?_
 exact aeG I1 r1 rt g1 q1 hw fun items Keep J kh a b c => k items Keep G1 H1 J kh a g1 s1' b c
def oW (l : LA) : LI:=fun S G Ψ => l S G fun ts G1 => match ts with
 | [.int j] => (-(2 ^ 62) <= j /\ j < 2 ^ 62) /\ Ψ ((List.range j.toNat).map fun (i : Nat) => T.int (i : Int)) (fun _ => True) G1
 | _ => False
def y8 (l : LA) : LI:=fun S G Ψ => l S G fun ts G1 => match ts with
 | [.int lo,.int hi] => (-(2 ^ 62) <= lo /\ lo < 2 ^ 62 /\ -(2 ^ 62) <= hi /\ hi < 2 ^ 62) /\ Ψ ((List.range (hi - lo).toNat).map fun (i : Nat) => T.int (lo + (i : Int))) (fun _ => True) G1
 | _ => False
theorem zZ {K : Fr0} {en : En} {lo : Int} {n : Nat} : ItOk K en (Itr lo n) ((List.range n).map fun (i : Nat) => T.int (lo + (i : Int))) (fun _ => True) (fun _ => True) where
 stab:=fun _ _ _ h => h
 go:=fun i H G g _ _ hi => by
  show i < n
  simpa using hi
 stop:=fun i H G g _ _ hi => by
  show n <= i
  simpa using hi
 yld:=fun i H G x H' g _ _ y hi => by
  obtain ⟨e,ex⟩:=y
  subst e ex
  refine ⟨.int (lo + i),?_,.int _,g,Step.refl _ _⟩
  have hi' : i < n:=by simpa using hi
  rw [List.getElem?_map,List.getElem?_range hi']
  rfl
theorem ae1 {K : Fr0} {en : En} {n : Nat} : ItOk K en (Itr 0 n) ((List.range n).map fun (i : Nat) => T.int (i : Int)) (fun _ => True) (fun _ => True):=by
 have h:=zZ (K:=K) (en:=en) (lo:=0) (n:=n)
 have e : (fun (i : Nat) => T.int (0 + (i : Int))) = fun (i : Nat) => T.int (i : Int):=by
  funext i
  rw [Int.zero_add]
 rw [e] at h
 exact h
theorem lG (hg : Gl X "range") (hm : X.mg "range" = none) (ha : Ea en X [a] l) (hs : starEach [a] X.env = [(false,eval a X.env)]:=by rfl) : Ei en X tg (.Call (.Name "range" p) [a] [] pos) (oW l):=by
 refine PI.weak (pi_range1 hg hm ha hs) fun σ H R ⟨S,G,Ψ,s,g,q,k⟩ => ?_
 refine ⟨S,G,_,s,g,q,fun ts G1 vs H1 q1 r1 g1 s1 => ?_⟩
 split at q1
 . rename_i j
   cases r1 with
   | cons h1 h2 =>
    cases h1
    cases h2
    exact ⟨j,rfl,q1.1.1,q1.1.2,k _ _ _ _ _ _ q1.2 g1 s1 ae1 True.intro⟩
 . exact q1.elim
def fq (xs : List T) : List T:=xs.zipIdx.map fun q => T.tup [.int (q.2 : Int),q.1]
def dZ (xs ys : List T) : List T:=(xs.zip ys).map fun q => T.tup [q.1,q.2]
def pz (l : LA) : LI:=fun S G Ψ => l S G fun ts G1 => match ts with
 | [.ref a] => (match G1 a with
  | some (.lst xs) => Ψ (fq xs) (fun G' => G' a = some (.lst xs)) G1
  | _ => False)
 | _ => False
theorem aa8 {K : Fr0} {en : En} {a : Addr} {xs : List T} : ItOk K en (Ite K a) (fq xs) (fun G' => G' a = some (.lst xs)) (fun _ => True) where
 stab:=fun _ _ _ h => h
 go:=fun i H G g kp _ hi => by
  obtain ⟨vs,h1,r⟩:=g.obj a _ kp
  have hi' : i < xs.length:=by simpa [fq] using hi
  obtain ⟨v,h2,_⟩:=r.get (List.getElem?_eq_getElem hi')
  exact ⟨vs,v,SqL.of h1,h2⟩
 stop:=fun i H G g kp _ hi => by
  obtain ⟨vs,h1,r⟩:=g.obj a _ kp
  exact ⟨vs,SqL.of h1,by rw [r.length]; simpa [fq] using hi⟩
 yld:=fun i H G x H' g kp _ y hi => by
  obtain ⟨p,v,ex,hp,eH,y⟩:=y
  subst ex eH
  obtain ⟨vs,h1,r⟩:=g.obj a _ kp
  obtain ⟨t,h2,h3⟩:=r.getV (y vs (SqL.of h1))
  obtain ⟨r2,g2,s2⟩:=tup_laid g hp (.cons (.int (i : Int)) (.cons h3 .nil))
  refine ⟨_,?_,r2,g2,s2⟩
  unfold fq
  rw [List.getElem?_map,List.getElem?_zipIdx,h2]
  simp
theorem abz (hg : Gl X "enumerate") (hm : X.mg "enumerate" = none) (ha : Ea en X [e] l) (hs : starEach [e] X.env = [(false,eval e X.env)]:=by rfl) : Ei en X (.Tuple elts kk tpos) (.Call (.Name "enumerate" p) [e] [] pos) (pz l):=by
 refine PI.weak (pi_enum hg hm ha hs) fun σ H R ⟨S,G,Ψ,s,g,q,k⟩ => ?_
 refine ⟨S,G,_,s,g,q,fun ts G1 vs H1 q1 r1 g1 s1 => ?_⟩
 split at q1
 . rename_i a
   cases r1 with
   | cons h1 h2 =>
    cases h1
    cases h2
    split at q1
    . rename_i xs e
      obtain ⟨vs,h1,r⟩:=g1.obj _ _ e
      exact ⟨a,vs,rfl,SqL.of h1,k _ _ _ _ _ _ q1 g1 s1 aa8 True.intro⟩
    . exact q1.elim
 . exact q1.elim
def oH (l : LA) : LI:=fun S G Ψ => l S G fun ts G1 => match ts with
 | [.ref a,.ref b] => (match G1 a,G1 b with
  | some (.lst xs),some (.lst ys) => Ψ (dZ xs ys) (fun G' => G' a = some (.lst xs) /\ G' b = some (.lst ys)) G1
  | _,_ => False)
 | [.tup xs,.tup ys] => Ψ (dZ xs ys) (fun _ => True) G1
 | _ => False
theorem wl {xs ys : List T} {i : Nat} {x y : T} (h1 : xs[i]? = some x) (h2 : ys[i]? = some y) : (dZ xs ys)[i]? = some (.tup [x,y]):=by
 unfold dZ
 rw [List.getElem?_map]
 have : (xs.zip ys)[i]? = some (x,y):=by rw [List.getElem?_zip_eq_some]; exact ⟨h1,h2⟩
 rw [this]
 rfl
theorem aff {K : Fr0} {en : En} {a b : Addr} {xs ys : List T} : ItOk K en (Itz K a b) (dZ xs ys) (fun G' => G' a = some (.lst xs) /\ G' b = some (.lst ys)) (fun _ => True) where
 stab:=fun _ _ _ h => h
 go:=fun i H G g kp _ hi => by
  obtain ⟨vs,h1,r⟩:=g.obj a _ kp.1
  obtain ⟨ws,h2,r2⟩:=g.obj b _ kp.2
  have hi' : i < xs.length /\ i < ys.length:=by simp [dZ] at hi; omega
  obtain ⟨v,h3,_⟩:=r.get (List.getElem?_eq_getElem hi'.1)
  obtain ⟨w,h4,_⟩:=r2.get (List.getElem?_eq_getElem hi'.2)
  exact ⟨vs,ws,v,w,SqL.of h1,SqL.of h2,h3,h4⟩
 stop:=fun i H G g kp _ hi => by
  obtain ⟨vs,h1,r⟩:=g.obj a _ kp.1
  obtain ⟨ws,h2,r2⟩:=g.obj b _ kp.2
  refine ⟨vs,ws,SqL.of h1,SqL.of h2,?_⟩
  rw [r.length,r2.length]
  simp [dZ] at hi
  omega
 yld:=fun i H G x H' g kp _ y hi => by
  obtain ⟨p,v,w,ex,hp,eH,y1,y2⟩:=y
  subst ex eH
  obtain ⟨vs,h1,r⟩:=g.obj a _ kp.1
  obtain ⟨ws,h2,r2⟩:=g.obj b _ kp.2
  obtain ⟨t,h3,h4⟩:=r.getV (y1 vs (SqL.of h1))
  obtain ⟨u,h5,h6⟩:=r2.getV (y2 ws (SqL.of h2))
  obtain ⟨r3,g3,s3⟩:=tup_laid g hp (.cons h4 (.cons h6 .nil))
  exact ⟨_,wl h3 h5,r3,g3,s3⟩
theorem ada {K : Fr0} {en : En} {a b : Addr} {vs ws : List V} {xs ys : List T} : ItOk K en (ItzT K a b) (dZ xs ys) (fun _ => True) (fun H => SqT K H a vs /\ RelL K H vs xs /\ SqT K H b ws /\ RelL K H ws ys) where
 stab:=fun H H' st h => ⟨st.tup h.1,h.2.1.stay st,st.tup h.2.2.1,h.2.2.2.stay st⟩
 go:=fun i H G g _ kh hi => by
  obtain ⟨h1,r,h2,r2⟩:=kh
  have hi' : i < xs.length /\ i < ys.length:=by simp [dZ] at hi; omega
  obtain ⟨v,h3,_⟩:=r.get (List.getElem?_eq_getElem hi'.1)
  obtain ⟨w,h4,_⟩:=r2.get (List.getElem?_eq_getElem hi'.2)
  exact ⟨vs,ws,v,w,h1,h2,h3,h4⟩
 stop:=fun i H G g _ kh hi => by
  obtain ⟨h1,r,h2,r2⟩:=kh
  refine ⟨vs,ws,h1,h2,?_⟩
  rw [r.length,r2.length]
  simp [dZ] at hi
  omega
 yld:=fun i H G x H' g _ kh y hi => by
  obtain ⟨p,v,w,ex,hp,eH,y1,y2⟩:=y
  subst ex eH
  obtain ⟨h1,r,h2,r2⟩:=kh
  obtain ⟨t,h3,h4⟩:=r.getV (y1 vs h1)
  obtain ⟨u,h5,h6⟩:=r2.getV (y2 ws h2)
  obtain ⟨r3,g3,s3⟩:=tup_laid g hp (.cons h4 (.cons h6 .nil))
  exact ⟨_,wl h3 h5,r3,g3,s3⟩
theorem ad3 (hg : Gl X "zip") (hm : X.mg "zip" = none) (ha : Ea en X [a,b] l) (hs : starEach [a,b] X.env = (false,eval a X.env) :: starEach [b] X.env:=by rfl) (hpl : (backTo pos (starEach [b] X.env)).any (·.1) = false:=by rfl) :
    Ei en X (.Tuple elts kk tpos) (.Call (.Name "zip" p) [a,b] [] pos) (oH l):=by
 refine PI.weak (pi_zipA hg hm ha hs hpl) fun σ H R ⟨S,G,Ψ,s,g,q,k⟩ => ?_
 refine ⟨S,G,_,s,g,q,fun ts G1 vs H1 q1 r1 g1 s1 => ?_⟩
 split at q1
 . rename_i a b
   cases r1 with
   | cons h1 h2 =>
    cases h1
    cases h2 with
    | cons h2 h3 =>
     cases h2
     cases h3
     split at q1
     . rename_i xs ys e1 e2
       obtain ⟨vs,h1,r⟩:=g1.obj _ _ e1
       obtain ⟨ws,h2,r2⟩:=g1.obj _ _ e2
       exact ⟨a,b,vs,ws,rfl,.inl ⟨SqL.of h1,SqL.of h2,k _ _ _ _ _ _ q1 g1 s1 aff True.intro⟩⟩
     . exact q1.elim
 . cases r1 with
   | cons h1 h2 =>
    cases h2 with
    | cons h2 h3 =>
     cases h3
     cases h1 with
     | @tup p1 vs ts hs1 rs1 =>
      cases h2 with
      | @tup p2 ws us hs2 rs2 => exact ⟨p1,p2,vs,ws,rfl,.inr ⟨hs1,hs2,k _ _ _ _ _ _ q1 g1 s1 ada ⟨hs1,rs1,hs2,rs2⟩⟩⟩
 . exact q1.elim
def s9 (ls : LS) : LS:=fun L S G => ∃ d,match G d with
    | some (.dic kvs) => ∀ ob raw,ls ⟨fun S' G' => G' d = some (.fdic ob raw kvs) /\ L.nx S' (gup G' d (.dic kvs)),fun t G' => G' d = some (.fdic ob raw kvs) /\ L.rt t (gup G' d (.dic kvs)),
        fun S' G' => G' d = some (.fdic ob raw kvs) /\ L.bk S' (gup G' d (.dic kvs)),fun S' G' => G' d = some (.fdic ob raw kvs) /\ L.ct S' (gup G' d (.dic kvs))⟩ S (gup G d (.fdic ob raw kvs))
    | some (.dicN kvs) => ∀ ob raw,ls ⟨fun S' G' => G' d = some (.fdicN ob raw kvs) /\ L.nx S' (gup G' d (.dicN kvs)),fun t G' => G' d = some (.fdicN ob raw kvs) /\ L.rt t (gup G' d (.dicN kvs)),
        fun S' G' => G' d = some (.fdicN ob raw kvs) /\ L.bk S' (gup G' d (.dicN kvs)),fun S' G' => G' d = some (.fdicN ob raw kvs) /\ L.ct S' (gup G' d (.dicN kvs))⟩ S (gup G d (.fdicN ob raw kvs))
    | _ => False
def mO (le : LE) : LE:=fun S G Φ => ∃ d,match G d with
    | some (.dic kvs) => ∀ ob raw,le S (gup G d (.fdic ob raw kvs)) fun t G' => G' d = some (.fdic ob raw kvs) /\ Φ t (gup G' d (.dic kvs))
    | some (.dicN kvs) => ∀ ob raw,le S (gup G d (.fdicN ob raw kvs)) fun t G' => G' d = some (.fdicN ob raw kvs) /\ Φ t (gup G' d (.dicN kvs))
    | _ => False
theorem unlock {K : Fr0} {en : En} {H : Hp} {G : Gp} {d : Addr} {ob : Obj} {raw : List (Key × V)} {kvs : List (T × T)} (g : HRel K en H G) (e : G d = some (.fdic ob raw kvs)) :
    H d = some (.frz ob (.dK raw)) /\ HRel K en (L2.upd H d (.dK raw)) (gup G d (.dic kvs)) /\ Step H G (L2.upd H d (.dK raw)) (gup G d (.dic kvs)) /\ a9 K H (L2.upd H d (.dK raw)):=by
 obtain ⟨h1,r⟩:=g.obj d _ e
 obtain ⟨g2,s2,st⟩:=g.upd (a:=d) (ho:=.dK raw) (o:=.dic kvs) (.inr ⟨_,e,fun n z => by cases z⟩) (fun n z => by cases z) ⟨raw,upd_same,r.stay (fc g e (fun n z => by cases z))⟩
 exact ⟨h1,g2,s2,st⟩
theorem lL {K : Fr0} {en : En} {H : Hp} {G : Gp} {d : Addr} {ob : Obj} {raw : List (NestedKey × Addr × V)} {kvs : List (T × T)} (g : HRel K en H G) (e : G d = some (.fdicN ob raw kvs)) :
    H d = some (.frz ob (aL Dv.Wld.w d raw)) /\ HRel K en (L2.upd H d (aL Dv.Wld.w d raw)) (gup G d (.dicN kvs)) /\ Step H G (L2.upd H d (aL Dv.Wld.w d raw)) (gup G d (.dicN kvs)) /\ a9 K H (L2.upd H d (aL Dv.Wld.w d raw)):=by
 obtain ⟨h1,r⟩:=g.obj d _ e
 obtain ⟨g2,s2,st⟩:=g.upd (a:=d) (ho:=aL Dv.Wld.w d raw) (o:=.dicN kvs) (.inr ⟨_,e,fun n z => by cases z⟩) (fun n z => by cases z) ⟨raw,upd_same,r.stay (fc g e (fun n z => by cases z))⟩
 exact ⟨h1,g2,s2,st⟩
theorem adF (h : Es en X st ls) : Es en X st (s9 ls):=by
 refine PS.weak (ps_lock h) fun D σ H ⟨S,G,L,s,g,q,ends⟩ => ?_
 simp only [s9] at q
 obtain ⟨d,q⟩:=q
 . split at q
   . rename_i kvs e
     obtain ⟨raw,h1,r⟩:=g.obj d _ e
     refine ⟨d,.dK raw,h1,True.intro,fun ob => ?_⟩
     obtain ⟨g1,s1,st1⟩:=g.upd (a:=d) (ho:=.frz ob (.dK raw)) (o:=.fdic ob raw kvs) (.inr ⟨_,e,fun n z => by cases z⟩) (fun n z => by cases z) ⟨upd_same,r.stay (fc g e (fun n z => by cases z))⟩
     refine ⟨S,_,_,s.stay st1,g1,q ob raw,⟨?_,?_,?_,?_⟩⟩
     . intro S' G' σ' H' ⟨e',q'⟩ s' g' t'
       obtain ⟨h2,g2,s2,st2⟩:=unlock g' e'
       exact ⟨h2,ends.nx S' _ σ' _ q' (s'.stay st2) g2 ((s1.trans t').trans s2)⟩
     . intro t G' v H' ⟨e',q'⟩ r' g' t'
       obtain ⟨h2,g2,s2,st2⟩:=unlock g' e'
       exact ⟨h2,ends.rt t _ v _ q' (r'.stay st2) g2 ((s1.trans t').trans s2)⟩
     . intro S' G' σ' H' ⟨e',q'⟩ s' g' t'
       obtain ⟨h2,g2,s2,st2⟩:=unlock g' e'
       exact ⟨h2,ends.bk S' _ σ' _ q' (s'.stay st2) g2 ((s1.trans t').trans s2)⟩
     . intro S' G' σ' H' ⟨e',q'⟩ s' g' t'
       obtain ⟨h2,g2,s2,st2⟩:=unlock g' e'
       exact ⟨h2,ends.ct S' _ σ' _ q' (s'.stay st2) g2 ((s1.trans t').trans s2)⟩
   . rename_i kvs e
     obtain ⟨raw,h1,r⟩:=g.obj d _ e
     refine ⟨d,aL Dv.Wld.w d raw,h1,True.intro,fun ob => ?_⟩
     obtain ⟨g1,s1,st1⟩:=g.upd (a:=d) (ho:=.frz ob (aL Dv.Wld.w d raw)) (o:=.fdicN ob raw kvs) (.inr ⟨_,e,fun n z => by cases z⟩) (fun n z => by cases z) ⟨upd_same,r.stay (fc g e (fun n z => by cases z))⟩
     refine ⟨S,_,_,s.stay st1,g1,q ob raw,⟨?_,?_,?_,?_⟩⟩
     . intro S' G' σ' H' ⟨e',q'⟩ s' g' t'
       obtain ⟨h2,g2,s2,st2⟩:=lL g' e'
       exact ⟨h2,ends.nx S' _ σ' _ q' (s'.stay st2) g2 ((s1.trans t').trans s2)⟩
     . intro t G' v H' ⟨e',q'⟩ r' g' t'
       obtain ⟨h2,g2,s2,st2⟩:=lL g' e'
       exact ⟨h2,ends.rt t _ v _ q' (r'.stay st2) g2 ((s1.trans t').trans s2)⟩
     . intro S' G' σ' H' ⟨e',q'⟩ s' g' t'
       obtain ⟨h2,g2,s2,st2⟩:=lL g' e'
       exact ⟨h2,ends.bk S' _ σ' _ q' (s'.stay st2) g2 ((s1.trans t').trans s2)⟩
     . intro S' G' σ' H' ⟨e',q'⟩ s' g' t'
       obtain ⟨h2,g2,s2,st2⟩:=lL g' e'
       exact ⟨h2,ends.ct S' _ σ' _ q' (s'.stay st2) g2 ((s1.trans t').trans s2)⟩
   . exact q.elim
theorem tM (h : E en X e la) : E en X e (mO la):=by
 refine PE.weak (pe_lock h) fun σ H Q ⟨S,G,Φ,s,g,q,k⟩ => ?_
 simp only [mO] at q
 obtain ⟨d,q⟩:=q
 . split at q
   . rename_i kvs e
     obtain ⟨raw,h1,r⟩:=g.obj d _ e
     refine ⟨d,.dK raw,h1,True.intro,fun ob => ?_⟩
     obtain ⟨g1,s1,st1⟩:=g.upd (a:=d) (ho:=.frz ob (.dK raw)) (o:=.fdic ob raw kvs) (.inr ⟨_,e,fun n z => by cases z⟩) (fun n z => by cases z) ⟨upd_same,r.stay (fc g e (fun n z => by cases z))⟩
     refine ⟨S,_,_,s.stay st1,g1,q ob raw,fun t G' v H' ⟨e',q'⟩ r' g' t' => ?_⟩
     obtain ⟨h2,g2,s2,st2⟩:=unlock g' e'
     exact ⟨h2,k t _ v _ q' (r'.stay st2) g2 ((s1.trans t').trans s2)⟩
   . rename_i kvs e
     obtain ⟨raw,h1,r⟩:=g.obj d _ e
     refine ⟨d,aL Dv.Wld.w d raw,h1,True.intro,fun ob => ?_⟩
     obtain ⟨g1,s1,st1⟩:=g.upd (a:=d) (ho:=.frz ob (aL Dv.Wld.w d raw)) (o:=.fdicN ob raw kvs) (.inr ⟨_,e,fun n z => by cases z⟩) (fun n z => by cases z) ⟨upd_same,r.stay (fc g e (fun n z => by cases z))⟩
     refine ⟨S,_,_,s.stay st1,g1,q ob raw,fun t G' v H' ⟨e',q'⟩ r' g' t' => ?_⟩
     obtain ⟨h2,g2,s2,st2⟩:=lL g' e'
     exact ⟨h2,k t _ v _ q' (r'.stay st2) g2 ((s1.trans t').trans s2)⟩
   . exact q.elim
end
end Dv
noncomputable section
namespace Dv
open PySem L2
variable [Dv.Wld]
abbrev cW:=Addr -> List (Str × T) -> Gp -> Prop
abbrev aI:=List T -> Gp -> QT -> cW -> Prop
def bH : cW:=fun _ _ _ => False
def pC (K : Fr0) (H : Hp) (cls : Value) (d : Option Addr) (C : Addr) (fs : List (Str × T)) : Prop:=cls = .ref C /\ ((d = none /\ fs = []) \/ ∃ dd raw,d = some dd /\ H dd = some (.xd raw) /\ RelF K H raw fs)
def eO (K : Fr0) (en : En) (E2 : cW) : XK:=fun cls d H => ∃ C fs G,E2 C fs G /\ pC K H cls d C fs /\ HRel K en H G
def cZ (K : Fr0) (sp : aI) : Sp:=fun vs H Q E => ∃ ts G Φ ΦE,RelL K H vs ts /\ HRel K [] H G /\ sp ts G Φ ΦE /\ (∀ t G' v H',Φ t G' -> Rel K H' v t -> HRel K [] H' G' -> Step H G H' G' -> Q v H') /\
 ∀ C fs G' H' cls d,ΦE C fs G' -> pC K H' cls d C fs -> HRel K [] H' G' -> Step H G H' G' -> E cls d H'
theorem acr {K : Fr0} {en : En} {cls : Value} {d : Option Addr} {H : Hp} : ¬ eO K en bH cls d H:=fun ⟨_,_,_,h,_⟩ => h.elim
theorem iO {X : Cx} {en : En} : Passes (L2.CX X.prog X.w) X (eO X.K en bH):=fun _ _ _ _ _ _ _ h => by
 obtain ⟨_,_,_,_,_,_,_,_,_,_,_,_,z⟩:=h
 exact (acr z).elim
def hM (sp : aI) (dts : List T) (E2 : cW) (l : LA) : LE:=fun S G Φ => l S G fun ts G1 => sp (ts ++ dts) G1 Φ E2
def jH (C : Addr) (m : Str) (sp : aI) (dts : List T) (E2 : cW) (la : LE) (l : LA) : LE:=fun S G Φ => la S G fun t G1 => match t with
 | .ref a => (match G1 a with
  | some (.ins C' fs) => C' = C /\ fs.lookup m = none /\ l S G1 fun ts G2 => sp (.ref a :: (ts ++ dts)) G2 Φ E2
  | _ => False)
 | _ => False
def mn (C : Addr) (sp : aI) (dts : List T) (E2 : cW) (l : LA) : LE:=fun S G Φ => l S G fun ts G1 => ∀ x,G1 x = none -> sp (.ref x :: (ts ++ dts)) (gup G1 x (.ins C [])) (fun t G2 => t = .non /\ Φ (.ref x) G2) E2
def lK (C : Addr) (f : Str) (la : LE) : LE:=fun S G Φ => la S G fun t G1 => match t with
 | .ref a => (match G1 a with
  | some (.ins C' fs) => C' = C /\ (match fs.lookup f with
   | some u => Φ u G1
   | none => False)
  | _ => False)
 | _ => False
def putT (f : Str) (v : T) : List (Str × T) -> List (Str × T)
 | [] => [(f,v)]
 | p :: r => if p.1 = f then (f,v) :: r else p :: putT f v r
def o9 (C : Addr) (f : Str) (la lv : LE) : LS:=fun L S G => lv S G fun v G1 => la S G1 fun t G2 => match t with
 | .ref a => (match G2 a with
  | some (.ins C' fs) => C' = C /\ fs.length < 1000 /\ L.nx S (gup G2 a (.ins C (putT f v fs)))
  | _ => False)
 | _ => False
theorem RelF.look {K : Fr0} {H : Hp} {f : Str} : ∀ {vs : List (Str × V)} {ts : List (Str × T)},RelF K H vs ts -> (ts.lookup f = none /\ vs.lookup f = none) \/ ∃ t v,ts.lookup f = some t /\ vs.lookup f = some v /\ Rel K H v t
 | _,_,.nil => .inl ⟨rfl,rfl⟩
 | _, _, .cons (k := j) (v := v) (t := t) (kvs := r) (ts := u) h rs => by
  by_cases e : f = j
  . subst e
    exact .inr ⟨t,v,by simp,by simp,h⟩
  . have e' : (f == j) = false:=beq_eq_false_iff_ne.mpr e
    rcases RelF.look (f:=f) rs with ⟨h1,h2⟩ | ⟨t',v',h1,h2,h3⟩
    . exact .inl ⟨by rw [List.lookup_cons,e']; exact h1,by rw [List.lookup_cons,e']; exact h2⟩
    . exact .inr ⟨t',v',by rw [List.lookup_cons,e']; exact h1,by rw [List.lookup_cons,e']; exact h2,h3⟩
theorem RelF.length {K : Fr0} {H : Hp} : ∀ {vs : List (Str × V)} {ts : List (Str × T)},RelF K H vs ts -> vs.length = ts.length
 | _,_,.nil => rfl
 | _,_,.cons _ r => by simp [RelF.length r]
theorem RelF.put {K : Fr0} {H : Hp} {f : Str} {v : V} {t : T} (h : Rel K H v t) : ∀ {vs : List (Str × V)} {ts : List (Str × T)},RelF K H vs ts -> RelF K H (putF f v vs) (putT f t ts)
 | _,_,.nil => .cons h .nil
 | _, _, .cons (k := j) hr r => by
  unfold putF putT
  by_cases e : j = f
  . subst e
    rw [if_pos rfl,if_pos rfl]
    exact .cons h r
  . rw [if_neg e,if_neg e]
    exact .cons hr (RelF.put h r)
section
variable {X : Cx} {CX : CXT} {a b c e o : Expr} {es : List Expr} {la lb lv : LE} {l lk : LA} {pos p p2 apos cpos : Pos} {k : Nat} {f C : Addr} {fd : FuncData} {ps ks : List Str} {sp : aI} {dts : List T} {dvs : List V} {ds : List Value} {E2 : cW} {x m : Str} {kws : List Keyword}
theorem ac3 {K : Fr0} (hdt : ∀ H,RelL K H dvs dts) : ∀ σ H Q,low K en (hM sp dts E2 l) σ H Q -> tCall (cZ K sp) dvs (eO K en E2) (uA K en l) σ H Q:=by
 intro σ H Q ⟨S,G,Φ,s,g,q,kk⟩
 refine ⟨S,G,_,s,g,q,fun ts G1 vs H1 q1 r1 g1 s1 => ?_⟩
 refine ⟨ts ++ dts,G1,Φ,E2,r1.app (hdt H1),g1.nil,q1,fun t G' v H' a b c d => kk t G' v H' a b (g1.back c d) (s1.trans d),fun C fs G' H' cls d a b c d' => ⟨C,fs,G',a,b,g1.back c d'⟩⟩
theorem xj (F : FnOk X.prog X.w X.K X.mg X.base CX k f fd ps (cZ X.K sp)) (hr : Room k X.A) (hg : Gl X x) (hm : X.mg x = some (.ref f)) (hk : PySem.W.keepIn X.K (.ref f) = true) (hb : Binds X.K fd ps ds) (hd : Vals dvs ds) (hdt : ∀ H,RelL X.K H dvs dts) (hx : Passes CX X (eO X.K en E2))
 (ha : Ea en X (e :: es) l) (hdb : (x == ("__debug__" : Str)) = false:=by decide) (he : starEach (e :: es) X.env = (false,eval e X.env) :: starEach es X.env:=by rfl) (hpl : (backTo pos (starEach es X.env)).any (·.1) = false:=by rfl) :
    E en X (.Call (.Name x p) (e :: es) [] pos) (hM sp dts E2 l):=PE.weak (pe_call F hr hg hm hk hb hd hx ha hdb he hpl) (ac3 hdt)
theorem PK.weak {t t' : TA} (h : PK X kws t) (w : ∀ σ H Q,t' σ H Q -> t σ H Q) : PK X kws t':=⟨fun pos pins s σ H Q I q => h.run pos pins s σ H Q I (w σ H Q q)⟩
theorem aad {pl : Sem Bool} (he : E en X o la) (c : Cls X.K C) (hm : Meth X.K C m f) (F : FnOk X.prog X.w X.K X.mg X.base CX k f fd ps (cZ X.K sp)) (hr : Room k X.A) (hb : Binds X.K fd ps ds) (hd : Vals dvs ds) (hdt : ∀ H,RelL X.K H dvs dts) (hx : Passes CX X (eO X.K en E2)) (ha : Ea en X (e :: es) l)
 (hst : starEach (e :: es) X.env = (false,eval e X.env) :: starEach es X.env:=by rfl) (hpl : (backTo pos (starEach es X.env)).any (·.1) = false:=by rfl)
 (ht : eval (.Call (.Attribute o m apos) (e :: es) [] pos) X.env = (do
     let ov <- eval o X.env
     standAt apos.atName
     let (f,first) <- holding [ov] (getMethod ov m pl)
     callWith pos f first (backTo pos (starEach (e :: es) X.env)) (backToKw pos (keywordEach [] X.env))):=by rfl) :
    E en X (.Call (.Attribute o m apos) (e :: es) [] pos) (jH C m sp dts E2 la l):=by
 refine PE.weak (pe_meth he c hm F hr hb hd hx ha hst hpl ht) fun σ H Q ⟨S,G,Φ,s,g,q,kk⟩ => ?_
 refine ⟨S,G,_,s,g,q,fun t G1 v H1 q1 r1 g1 s1 => ?_⟩
 cases r1 with
 | ref a =>
  simp only at q1
  split at q1
  . rename_i C' fs e1
    obtain ⟨hC,hl,q1⟩:=q1
    subst hC
    obtain ⟨dx,raw,h1,rf⟩:=g1.obj _ _ e1
    have hl' : raw.lookup m = none:=by
     rcases rf.look (f:=m) with ⟨_,z⟩ | ⟨t,v,z,_⟩
     . exact z
     . rw [hl] at z; cases z
    refine ⟨a,dx,raw,rfl,h1,hl',?_⟩
    refine ⟨S,G1,_,s.stay (s1.stay g),g1,q1,fun ts G2 vs H2 q2 r2 g2 s2 => ?_⟩
    exact ⟨_,G2,Φ,E2,.cons (.ref a) (r2.app (hdt H2)),g2.nil,q2,fun t G' v H' a b c d => kk t G' v H' a b (g2.back c d) ((s1.trans s2).trans d),fun C fs G' H' cls d a b c d' => ⟨C,fs,G',a,b,g2.back c d'⟩⟩
  . exact q1.elim
 | _ => exact q1.elim
theorem made {K : Fr0} {H : Hp} {G : Gp} {x dx : Addr} (g : HRel K en H G) (h1 : H x = none) (h2 : H dx = none) (hne : dx ≠ x) : HRel K en (L2.upd (L2.upd H dx (.own x)) x (.ins C dx [])) (gup G x (.ins C [])) /\ Step H G (L2.upd (L2.upd H dx (.own x)) x (.ins C dx [])) (gup G x (.ins C [])):=by
 obtain ⟨g1,s1,_⟩:=g.laid (ho:=.own x) h2
 obtain ⟨g2,s2,_⟩:=g1.upd (a:=x) (ho:=.ins C dx []) (o:=.ins C []) (.inl (by rw [upd_ne hne.symm]; exact h1)) (fun n z => by cases z) ⟨dx,[],upd_same,.nil⟩
 exact ⟨g2,s1.trans s2⟩
theorem acl (M : Mk X.K C f) (F : FnOk X.prog X.w X.K X.mg X.base CX k f fd ps (cZ X.K sp)) (hr : Room (k + 1) X.A) (hg : Gl X x) (hm : X.mg x = some (.ref C)) (hb : Binds X.K fd ps ds) (hd : Vals dvs ds) (hdt : ∀ H,RelL X.K H dvs dts) (hx : Passes CX X (eO X.K en E2))
 (ha : Ea en X (e :: es) l) (hdb : (x == ("__debug__" : Str)) = false:=by decide) (he : starEach (e :: es) X.env = (false,eval e X.env) :: starEach es X.env:=by rfl) (hpl : (backTo pos (starEach es X.env)).any (·.1) = false:=by rfl) :
    E en X (.Call (.Name x p) (e :: es) [] pos) (mn C sp dts E2 l):=by
 refine PE.weak (pe_make M F hr hg hm hb hd hx ha hdb he hpl) fun σ H Q ⟨S,G,Φ,s,g,q,kk⟩ => ?_
 refine ⟨S,G,_,s,g,q,fun ts G1 vs H1 q1 r1 g1 s1 y dy h1 h2 hne => ?_⟩
 obtain ⟨g2,s2⟩:=made (C:=C) g1 h1 h2 hne
 exact ⟨_,_,_,E2,.cons (.ref y) ((r1.stay (s2.stay g1)).app (hdt _)),g2.nil,q1 y (g1.fresh h1),fun t G' v H' a b c d => by
  obtain ⟨e1,a⟩:=a
  subst e1
  cases b
  exact ⟨rfl,kk _ G' _ H' a (.ref y) (g2.back c d) ((s1.trans s2).trans d)⟩,fun C fs G' H' cls d a b c d' => ⟨C,fs,G',a,b,g2.back c d'⟩⟩
theorem eX {fl : Str} (he : E en X o la) (c : Cls X.K C) (n : NoAttr X.K C fl) (hb : attributeBase o fl X.env (eval o X.env) = eval o X.env:=by rfl) : E en X (.Attribute o fl pos) (lK C fl la):=by
 refine PE.weak (pe_fld he hb) fun σ H Q ⟨S,G,Φ,s,g,q,kk⟩ => ?_
 refine ⟨S,G,_,s,g,q,fun t G1 v H1 q1 r1 g1 s1 => ?_⟩
 cases r1 with
 | ref a =>
  simp only at q1
  split at q1
  . rename_i C' fs e1
    obtain ⟨hC,q1⟩:=q1
    subst hC
    split at q1
    . rename_i u e2
      obtain ⟨dx,raw,h1,rf⟩:=g1.obj _ _ e1
      rcases rf.look (f:=fl) with ⟨z,_⟩ | ⟨t,v,z1,z2,z3⟩
      . rw [e2] at z; cases z
      . rw [e2] at z1
        cases z1
        exact ⟨a,C',dx,raw,v,rfl,h1,c,n,z2,kk u G1 v H1 q1 z3 g1 s1⟩
    . exact q1.elim
  . exact q1.elim
 | _ => exact q1.elim
theorem yO {fl : Str} {pos' : Pos} (ha : E en X o la) (hv : E en X e lv) (c : Cls X.K C) (n : NoAttr X.K C fl) (hs : swapsWith e (some (.Attribute o fl pos')) pos.line X.env = pure false:=by rfl) : Es en X (.Assign [.Attribute o fl pos'] e pos) (o9 C fl la lv):=by
 refine PS.weak (ps_fld ha hv hs) fun D σ H ⟨S,G,L,s,g,q,ends⟩ => ?_
 refine ⟨S,G,_,s,g,q,fun v G1 x H1 q1 r1 g1 s1 => ?_⟩
 refine ⟨S,G1,_,s.stay (s1.stay g),g1,q1,fun t G2 y H2 q2 r2 g2 s2 => ?_⟩
 have s12:=s1.trans s2
 cases r2 with
 | ref a =>
  simp only at q2
  split at q2
  . rename_i C' fs e1
    obtain ⟨hC,hl,q2⟩:=q2
    subst hC
    obtain ⟨dx,raw,h1,rf⟩:=g2.obj _ _ e1
    have st:=fc (ho:=.ins C' dx (putF fl x raw)) g2 e1 (fun n z => by cases z)
    obtain ⟨g3,s3,st3⟩:=g2.upd (a:=a) (ho:=.ins C' dx (putF fl x raw)) (o:=.ins C' (putT fl v fs)) (.inr ⟨_,e1,fun n z => by cases z⟩) (fun n z => by cases z) ⟨dx,_,upd_same,RelF.stay st (rf.put (r1.stay (s2.stay g1)))⟩
    exact ⟨a,C',dx,raw,rfl,h1,c,n,by rw [rf.length]; exact hl,ends.nx S _ σ _ q2 (s.stay ((s12.trans s3).stay g)) g3 (s12.trans s3)⟩
  . exact q2.elim
 | _ => exact q2.elim
theorem xq {K : Fr0} {r : cw} : ∀ σ H Q,low K en (cq r l) σ H Q -> tCB (dz K en r) (uA K en l) σ H Q:=by
 intro σ H Q ⟨S,G,Φ,s,g,q,kk⟩
 refine ⟨S,G,_,s,g,q,fun ts G1 vs H1 q1 r1 g1 s1 => ?_⟩
 exact ⟨ts,G1,Φ,r1,g1,q1,fun t G' v H' a b c d => kk t G' v H' a b c (s1.trans d)⟩
theorem mM {r : cw} {id : String} (hc : CallR X (.builtin id) (dz X.K en r)) (hg : Gl X x) (hm : X.mg x = none) (hv : bootBuiltins x = some (.builtin id)) (ha : Ea en X (e :: es) l) (hn : x ≠ "__name__":=by decide) (hdb : (x == ("__debug__" : Str)) = false:=by decide)
 (he : starEach (e :: es) X.env = (false,eval e X.env) :: starEach es X.env:=by rfl) (hpl : (backTo pos (starEach es X.env)).any (·.1) = false:=by rfl) : E en X (.Call (.Name x p) (e :: es) [] pos) (cq r l) :=
 PE.weak (pe_callB hc hg hm hv ha hn hdb he hpl) xq
theorem kI {r : cw} {ty : String} (hc : CallR X (.type ty) (dz X.K en r)) (hg : Gl X x) (hm : X.mg x = none) (hv : bootBuiltins x = some (.type ty)) (ha : Ea en X (e :: es) l) (hn : x ≠ "__name__":=by decide) (hdb : (x == ("__debug__" : Str)) = false:=by decide)
 (he : starEach (e :: es) X.env = (false,eval e X.env) :: starEach es X.env:=by rfl) (hpl : (backTo pos (starEach es X.env)).any (·.1) = false:=by rfl) : E en X (.Call (.Name x p) (e :: es) [] pos) (cq r l) :=
 PE.weak (pe_callTy hc hg hm hv ha hn hdb he hpl) xq
def ee : cw:=fun ts G Φ => match ts with
 | [.str s] => s.length <= sizeLine /\ Φ (.int (s.length : Int)) G
 | [.tup xs] => Φ (.int (xs.length : Int)) G
 | [.ref a] => (match G a with
  | some (.lst xs) => Φ (.int (xs.length : Int)) G
  | some (.dic kvs) => Φ (.int (kvs.length : Int)) G
  | some (.fdic _ _ kvs) => Φ (.int (kvs.length : Int)) G
  | some (.dicN kvs) => Φ (.int (kvs.length : Int)) G
  | some (.fdicN _ _ kvs) => Φ (.int (kvs.length : Int)) G
  | _ => False)
 | _ => False
theorem abU {prog : Program} {w : World} {A : Around} {E : Value -> Shared -> Prop} {s : Shared} {d : Addr} {o : Obj} {es : Array DictEntry} {ep : Nat} {Q : Value -> Shared -> Prop} (hd : (d == sysModules) = false) (ho : s.heap.get? d = some o) (hc : o.ExactDict) (hdat : o.data = .dict es ep) (hfit : es.size <= sizeLine)
 (h : Q (.int es.size (s.toks + 1)) { s with toks:=s.toks + 1 + 1 }) : wpAny (model prog w) A (call (.builtin "len") [.ref d]) Q E s:=by
 have ty : s.TypeIs (.ref d) "dict":=⟨o,ho,hc.1⟩
 have hm : MeetsIn prog w (Builtin.«dict.__len__» ⟨[.ref d],[]⟩) (fun _ R s => ∃ es ep,(∃ o,s.heap.get? d = some o /\ o.ExactDict /\ o.data = .dict es ep) /\ R (.ok (.ret (.int es.size s.toks))) { s with toks:=s.toks + 1 }) :=
  .of_wp fun A R s ⟨es,ep,⟨o,ho,hc,hdat⟩,h⟩ => by
   show wpAny _ _ (dictSize d >>= _) _ _ s
   unfold dictSize
   refine wpAny_bind (wpAny_bind (wpAny_dictEntries ho hdat (wpAny_pure ?_)))
   show wpAny _ _ (Builtin.Dict.pendingCount d >>= _) _ _ s
   refine wpAny_bind (wpAny_pendingCount_other hd ?_)
   refine wpAny_ret_mkInt ?_
   rw [Nat.add_zero]
   exact h
 rw [sizeLine_eq] at hfit
 refine Calls.call_function_entry PySem.kind_len PySem.plain_len PySem.entry_len (PySem.args_len1 _) ?_
 unfold Builtin.«len»
 refine wpAny_bind (m:=oneArg "len" _) (wpAny_pure ?_)
 refine wpAny_bind (m:=callSpecial? (.ref d) (Str.ofString "__len__")) (wpAny_callSpecial?_slot (name:=Str.ofString "__len__") ty PySem.F.slot_dict_len
  (call_meetsIn PySem.F.slot_dict_len ty PySem.F.entry_dict_len (PySem.F.args_dict_len_1 _) hm ⟨es,ep,⟨o,ho,hc,hdat⟩,?_⟩))
 show wpAny _ _ _ _ _ { s with toks:=s.toks + 1 }
 refine wpAny_bind (wpAny_holding (wpAny_pure ?_))
 refine wpAny_bind (wpAny_letGo ?_)
 show wpAny _ _ (if ((es.size : Nat) : Int) < 0 then _ else _) _ _ _
 rw [if_neg (by omega)]
 show wpAny _ _ (if ((es.size : Nat) : Int) ≥ 2 ^ 63 then _ else _) _ _ _
 rw [if_neg (by omega)]
 exact wpAny_bind (wpAny_mkInt (wpAny_pure ⟨_,rfl,h⟩))
theorem abq : CallR X (.builtin "len") (fun xs H Q => ∃ (a : Addr) (w : World) (raw : List (NestedKey × Addr × V)),xs = [V.ref a] /\ Rd H a (aL w a raw) /\ Q (.int raw.length) H):=by
 intro pins s σ H xs us Q I r h
 obtain ⟨a,w,raw,rfl,ha,q⟩:=h
 obtain ⟨u,rfl,ru⟩:=vals1 r
 cases ru
 obtain ⟨⟨⟨z,hs⟩,o,es,ep,ys,ho,hx,hdt,he,hn,rel⟩,_⟩:=(show ObjOk X.prog X.w H s.heap a (aL w a raw) from ha.ok I.hok)
 have l1 : es.size = raw.length:=by
  have l1 : es.size = ys.length:=by rw [<- Array.length_toList,he,List.length_map]
  have l2 : raw.length = ys.length:=Paired.length rel
  omega
 refine abU hs ho hx hdt (by rw [l1]; exact z) ?_
 rw [l1]
 exact ⟨.int (raw.length : Nat),H,I.tok _,⟨_,rfl⟩,q⟩
theorem aeq : CallR X (.builtin "len") (fun xs H Q => ∃ a kvs,xs = [V.ref a] /\ Rd H a (.dK kvs) /\ Q (.int kvs.length) H):=by
 intro pins s σ H xs us Q I r h
 obtain ⟨a,kvs,rfl,ha,q⟩:=h
 obtain ⟨u,rfl,ru⟩:=vals1 r
 cases ru
 exact d_len I ha fun t s' I' => ⟨.int kvs.length,H,I',⟨t,rfl⟩,q⟩
theorem b_len : CallR X (.builtin "len") (dz X.K en ee):=by
 refine CallR.weak (CallR.or (CallR.or call_len aeq) abq) fun xs H Q ⟨ts,G,Φ,r,g,q,kk⟩ => ?_
 unfold ee at q
 split at q
 . cases r with
   | cons h1 h2 =>
    cases h1
    cases h2
    exact .inl (.inl ⟨_,_,rfl,⟨q.1,rfl⟩,kk _ _ _ _ q.2 (.int _) g (Step.refl H G)⟩)
 . cases r with
   | cons h1 h2 =>
    cases h2
    cases h1 with
    | tup hs rs => exact .inl (.inl ⟨_,_,rfl,.inr ⟨_,hs,rfl⟩,by rw [rs.length]; exact kk _ _ _ _ q (.int _) g (Step.refl H G)⟩)
 . cases r with
   | cons h1 h2 =>
    cases h1
    cases h2
    split at q
    . rename_i xs e1
      obtain ⟨vs,h1,r1⟩:=g.obj _ _ e1
      exact .inl (.inl ⟨_,_,rfl,.inl ⟨_,SqL.of h1,rfl⟩,by rw [r1.length]; exact kk _ _ _ _ q (.int _) g (Step.refl H G)⟩)
    . rename_i kvs e1
      obtain ⟨vs,h1,r1⟩:=g.obj _ _ e1
      exact .inl (.inr ⟨_,_,rfl,.inl h1,by rw [r1.length]; exact kk _ _ _ _ q (.int _) g (Step.refl H G)⟩)
    . rename_i ob vs kvs e1
      obtain ⟨h1,r1⟩:=g.obj _ _ e1
      exact .inl (.inr ⟨_,_,rfl,.inr ⟨_,h1⟩,by rw [r1.length]; exact kk _ _ _ _ q (.int _) g (Step.refl H G)⟩)
    . rename_i kvs e1
      obtain ⟨vs,h1,r1⟩:=g.obj _ _ e1
      exact .inr ⟨_,_,vs,rfl,.inl h1,by rw [r1.length]; exact kk _ _ _ _ q (.int _) g (Step.refl H G)⟩
    . rename_i ob vs kvs e1
      obtain ⟨h1,r1⟩:=g.obj _ _ e1
      exact .inr ⟨_,_,vs,rfl,.inr ⟨_,h1⟩,by rw [r1.length]; exact kk _ _ _ _ q (.int _) g (Step.refl H G)⟩
    . exact q.elim
 . exact q.elim
def tV : cw:=fun ts G Φ => match ts with
 | [.int i] => Φ (.int (if i < 0 then -i else i)) G
 | _ => False
theorem b_abs : CallR X (.builtin "abs") (dz X.K en tV):=by
 refine CallR.weak call_abs fun xs H Q ⟨ts,G,Φ,r,g,q,kk⟩ => ?_
 unfold tV at q
 split at q
 . cases r with
   | cons h1 h2 =>
    cases h1
    cases h2
    exact ⟨_,rfl,kk _ _ _ _ q (.int _) g (Step.refl H G)⟩
 . exact q.elim
def jv : cw:=fun ts G Φ => match ts with
 | [.int i] => Φ (.int i) G
 | [.bl k] => Φ (.int (if k then 1 else 0)) G
 | _ => False
theorem b_int : CallR X (.type "int") (dz X.K en jv):=by
 refine CallR.weak call_int1 fun xs H Q ⟨ts,G,Φ,r,g,q,kk⟩ => ?_
 unfold jv at q
 split at q
 . cases r with
   | cons h1 h2 =>
    cases h1
    cases h2
    exact .inl ⟨_,rfl,kk _ _ _ _ q (.int _) g (Step.refl H G)⟩
 . cases r with
   | cons h1 h2 =>
    cases h1
    cases h2
    exact .inr ⟨_,rfl,kk _ _ _ _ q (.int _) g (Step.refl H G)⟩
 . exact q.elim
def jm : cw:=fun ts G Φ => match ts with
 | [.tup xs] => ∀ p,G p = none -> Φ (.ref p) (gup G p (.lst xs))
 | [.ref a] => (match G a with
  | some (.lst xs) => ∀ p,G p = none -> Φ (.ref p) (gup G p (.lst xs))
  | _ => False)
 | _ => False
theorem b_list : CallR X (.type "list") (dz X.K en jm):=by
 refine CallR.weak call_list_of fun xs H Q ⟨ts,G,Φ,r,g,q,kk⟩ => ?_
 unfold jm at q
 split at q
 . cases r with
   | cons h1 h2 =>
    cases h2
    cases h1 with
    | tup hs rs =>
     refine ⟨_,_,rfl,.inr hs,fun p hp => ?_⟩
     obtain ⟨g2,s2⟩:=dJ g hp rs
     exact kk _ _ _ _ (q p (g.fresh hp)) (.ref p) g2 s2
 . cases r with
   | cons h1 h2 =>
    cases h1
    cases h2
    split at q
    . rename_i xs e1
      obtain ⟨vs,h1,r1⟩:=g.obj _ _ e1
      refine ⟨_,_,rfl,.inl (SqL.of h1),fun p hp => ?_⟩
      obtain ⟨g2,s2⟩:=dJ g hp r1
      exact kk _ _ _ _ (q p (g.fresh hp)) (.ref p) g2 s2
    . exact q.elim
 . exact q.elim
def iN : cw:=fun ts G Φ => match ts with
 | [.tup xs] => Φ (.tup xs) G
 | [.ref a] => (match G a with
  | some (.lst xs) => Φ (.tup xs) G
  | _ => False)
 | _ => False
theorem b_tuple : CallR X (.type "tuple") (dz X.K en iN):=by
 refine CallR.weak call_tuple_of fun xs H Q ⟨ts,G,Φ,r,g,q,kk⟩ => ?_
 unfold iN at q
 split at q
 . cases r with
   | cons h1 h2 =>
    cases h2
    cases h1 with
    | tup hs rs => exact ⟨_,_,rfl,.inr ⟨hs,kk _ _ _ _ q (.tup hs rs) g (Step.refl H G)⟩⟩
 . cases r with
   | cons h1 h2 =>
    cases h1
    cases h2
    split at q
    . rename_i xs e1
      obtain ⟨vs,h1,r1⟩:=g.obj _ _ e1
      refine ⟨_,_,rfl,.inl ⟨SqL.of h1,fun p hp => ?_⟩⟩
      obtain ⟨r2,g2,s2⟩:=tup_laid g hp r1
      exact kk _ _ _ _ q r2 g2 s2
    . exact q.elim
 . exact q.elim
def gI : cw:=fun ts G Φ => match ts with
 | [.ref a] => (match G a with
  | some (.lst xs) => ∃ ss : List Str,xs = ss.map T.str /\ ss.length < 64 /\ ∀ ys p,ys.Perm ss -> PyProof.Rows.sortedS ys = true -> G p = none -> Φ (.ref p) (gup G p (.lst (ys.map T.str)))
  | some (.dic kvs) => ∃ ss : List Str,kvs.map (·.1) = ss.map T.str /\ ss.length < 64 /\ ∀ ys p,ys.Perm ss -> PyProof.Rows.sortedS ys = true -> G p = none -> Φ (.ref p) (gup G p (.lst (ys.map T.str)))
  | some (.fdic _ _ kvs) => ∃ ss : List Str,kvs.map (·.1) = ss.map T.str /\ ss.length < 64 /\ ∀ ys p,ys.Perm ss -> PyProof.Rows.sortedS ys = true -> G p = none -> Φ (.ref p) (gup G p (.lst (ys.map T.str)))
  | _ => False)
 | _ => False
theorem ku {K : Fr0} {H : Hp} : ∀ ss : List Str,RelL K H (ss.map V.str) (ss.map T.str)
 | [] => .nil
 | s :: ss => .cons (.str s) (ku ss)
theorem RelD.strKeys {K : Fr0} {H : Hp} : ∀ {vs : List (Key × V)} {ts : List (T × T)} {ss : List Str},RelD K H vs ts -> ts.map (·.1) = ss.map T.str -> vs.map (·.1) = ss.map Sum.inr
 | _,_,[],.nil,_ => rfl
 | _,_,[],.cons _ _,e => by simp at e
 | _,_,_ :: _,.nil,e => by simp at e
 | _,_,s :: ss,.cons (k:=k) r rs,e => by
  simp only [List.map_cons,List.cons.injEq] at e ⊢
  refine ⟨?_,RelD.strKeys rs e.2⟩
  cases k with
  | inl i => cases e.1
  | inr x =>
   have:=e.1
   simp only [kT,T.str.injEq] at this
   rw [this]
theorem b_sorted (hc : X.calm = true) : CallR X (.builtin "sorted") (dz X.K en gI):=by
 refine CallR.weak (CallR.or cr_sortedS (call_sortedD hc)) fun xs H Q ⟨ts,G,Φ,r,g,q,kk⟩ => ?_
 unfold gI at q
 split at q
 . cases r with
   | cons h1 h2 =>
    cases h1
    cases h2
    split at q
    . rename_i xs e1
      obtain ⟨ss,rfl,hl,q⟩:=q
      obtain ⟨vs,h1,r1⟩:=g.obj _ _ e1
      have e:=r1.strs
      subst e
      refine .inl ⟨_,ss,rfl,SqL.of h1,hl,fun ys p hp1 hs hp => ?_⟩
      obtain ⟨g2,s2⟩:=dJ g hp (ku ys)
      exact kk _ _ _ _ (q ys p hp1 hs (g.fresh hp)) (.ref p) g2 s2
    . rename_i kvs e1
      obtain ⟨ss,e,hl,q⟩:=q
      obtain ⟨vs,h1,r1⟩:=g.obj _ _ e1
      refine .inr ⟨_,vs,ss,rfl,.inl h1,r1.strKeys e,hl,fun ys p hp1 hs hp => ?_⟩
      obtain ⟨g2,s2⟩:=dJ g hp (ku ys)
      exact kk _ _ _ _ (q ys p hp1 hs (g.fresh hp)) (.ref p) g2 s2
    . rename_i ob vs kvs e1
      obtain ⟨ss,e,hl,q⟩:=q
      obtain ⟨h1,r1⟩:=g.obj _ _ e1
      refine .inr ⟨_,vs,ss,rfl,.inr ⟨_,h1⟩,r1.strKeys e,hl,fun ys p hp1 hs hp => ?_⟩
      obtain ⟨g2,s2⟩:=dJ g hp (ku ys)
      exact kk _ _ _ _ (q ys p hp1 hs (g.fresh hp)) (.ref p) g2 s2
    . exact q.elim
 . exact q.elim
def gr : List T -> Option (List (T × T))
 | [] => some []
 | .tup [k,v] :: r => (match bK k,gr r with
  | some _,some ps => some ((k,v) :: ps)
  | _,_ => none)
 | _ => none
def jE (kvs more : List (T × T)) : List (T × T):=more.foldl (fun acc kv => dput acc kv.1 kv.2) kvs
def fF : cw:=fun ts G Φ => match ts with
 | [.ref a] => (match G a with
  | some (.lst xs) => (match gr xs with
   | some ps => ∀ p,G p = none -> Φ (.ref p) (gup G p (.dic (jE [] ps)))
   | none => False)
  | some (.dic kvs) => ∀ p,G p = none -> Φ (.ref p) (gup G p (.dic kvs))
  | some (.fdic _ _ kvs) => ∀ p,G p = none -> Φ (.ref p) (gup G p (.dic kvs))
  | _ => False)
 | _ => False
theorem RelD.merge {K : Fr0} {H : Hp} {ms : List (Key × V)} {ns : List (T × T)} (m : RelD K H ms ns) : ∀ {vs : List (Key × V)} {ts : List (T × T)},RelD K H vs ts -> RelD K H (mergeK vs ms) (jE ts ns):=by
 induction m with
 | nil => intro vs ts r; exact r
 | cons h hs ih => intro vs ts r; exact ih (r.put h)
theorem vT {K : Fr0} {H : Hp} : ∀ {xs : List T} {vs : List V} {ps : List (T × T)},RelL K H vs xs -> gr xs = some ps ->
 ∃ (as : List Addr) (kvs : List (Key × V)),vs = as.map V.ref /\ Paired (fun p kv => SqT K H p [kV kv.1,kv.2]) as kvs /\ RelD K H kvs ps
 | [],_,_,.nil,e => by
  simp only [gr,Option.some.injEq] at e
  subst e
  exact ⟨[],[],rfl,.nil,.nil⟩
 | x :: xs,_,ps,.cons (v:=v) h hs,e => by
  unfold gr at e
  split at e
  . rename_i heq
    cases heq
  . rename_i k t r heq
    simp only [List.cons.injEq] at heq
    obtain ⟨h1,h2⟩:=heq
    subst h1 h2
    split at e
    . rename_i k0 qs ek ep
      cases e
      obtain ⟨as,kvs,e1,e2,e3⟩:=vT hs ep
      have eu:=f7 ek
      subst eu
      cases h with
      | tup hq rs =>
       cases rs with
       | cons r1 rs =>
        cases rs with
        | cons r2 rs =>
         cases rs
         have ek:=r1.key
         subst ek
         exact ⟨_ :: as,(k0,_) :: kvs,by rw [e1]; rfl,.cons hq e2,.cons r2 e3⟩
    . cases e
  . cases e
theorem n4 {K : Fr0} {H : Hp} {G : Gp} {p : Addr} {vs : List (Key × V)} {ts : List (T × T)} (g : HRel K en H G) (hp : H p = none) (r : RelD K H vs ts) : HRel K en (L2.upd H p (.dK vs)) (gup G p (.dic ts)) /\ Step H G (L2.upd H p (.dK vs)) (gup G p (.dic ts)):=by
 have hp' : ∀ ho,a9 K H (L2.upd H p ho):=fun ho => (g.laid (ho:=ho) hp).2.2
 obtain ⟨g1,s1,st⟩:=g.upd (a:=p) (ho:=.dK vs) (o:=.dic ts) (.inl hp) (fun n z => by cases z) ⟨vs,upd_same,r.stay (hp' _)⟩
 exact ⟨g1,s1⟩
theorem b_dict (hc : X.calm = true) : CallR X (.type "dict") (dz X.K en fF):=by
 refine CallR.weak (CallR.or (call_dictP hc) call_dictD) fun xs H Q ⟨ts,G,Φ,r,g,q,kk⟩ => ?_
 unfold fF at q
 split at q
 . cases r with
   | cons h1 h2 =>
    cases h1
    cases h2
    split at q
    . rename_i xs e1
      split at q
      . rename_i ps e2
        obtain ⟨vs,h1,r1⟩:=g.obj _ _ e1
        obtain ⟨as,kvs,e3,e4,e5⟩:=vT r1 e2
        subst e3
        refine .inl ⟨_,as,kvs,rfl,SqL.of h1,e4,fun p hp => ?_⟩
        obtain ⟨g2,s2⟩:=n4 g hp (RelD.merge e5 .nil)
        exact kk _ _ _ _ (q p (g.fresh hp)) (.ref p) g2 s2
      . exact q.elim
    . rename_i kvs e1
      obtain ⟨vs,h1,r1⟩:=g.obj _ _ e1
      refine .inr ⟨_,vs,rfl,.inl h1,fun p hp => ?_⟩
      obtain ⟨g2,s2⟩:=n4 g hp r1
      exact kk _ _ _ _ (q p (g.fresh hp)) (.ref p) g2 s2
    . rename_i ob vs kvs e1
      obtain ⟨h1,r1⟩:=g.obj _ _ e1
      refine .inr ⟨_,vs,rfl,.inr ⟨ob,h1⟩,fun p hp => ?_⟩
      obtain ⟨g2,s2⟩:=n4 g hp r1
      exact kk _ _ _ _ (q p (g.fresh hp)) (.ref p) g2 s2
    . exact q.elim
 . exact q.elim
def g9 (ty : String) (t : T) (G : Gp) : Prop:=match t with
 | .str _ => ty = "str"
 | .ref a => (match G a with
  | some (.lst _) => ty = "list"
  | some (.dic _) => ty = "dict"
  | _ => False)
 | _ => False
def iL (ty : String) (r : f6) (la : LE) (l : LA) : LE:=fun S G Φ => la S G fun t G1 => g9 ty t G1 /\ l S G1 fun ts G2 => r t ts G2 Φ
theorem MtR.weak {id : String} {r r' : V -> List V -> Hp -> VK -> Prop} (h : MtR X id r) (w : ∀ x xs H Q,r' x xs H Q -> r x xs H Q) : MtR X id r':=fun pins s σ H x xs v us Q I rx rs q => h pins s σ H x xs v us Q I rx rs (w x xs H Q q)
theorem acW {K : Fr0} {H : Hp} {G : Gp} {t : T} {v : V} {ty : String} (g : HRel K en H G) (r : Rel K H v t) (h : g9 ty t G) : tyV K ty v H:=by
 cases r with
 | str _ => exact h
 | ref a =>
  simp only [g9] at h
  split at h
  . rename_i xs e
    obtain ⟨vs,h1,_⟩:=g.obj _ _ e
    exact .inl ⟨h,vs,SqL.of h1⟩
  . rename_i xs e
    obtain ⟨vs,h1,_⟩:=g.obj _ _ e
    exact .inr (.inr (.inl ⟨h,.inl ⟨vs,h1⟩⟩))
  . exact h.elim
 | _ => exact h.elim
theorem uW {r : f6} {ty id : String} {name : Str} (pa : PlainAttrs ty) (slot : Slot ty name id) (hty : typeOf (.builtin id) = pure (.type "method_descriptor")) (hm : MtR X id (pG X.K en r)) (ho : E en X o la) (ha : Ea en X (e :: es) l)
 (hbase : attributeBase o name X.env (eval o X.env) = eval o X.env:=by rfl)
 (hfew : ((backTo cpos (starEach (e :: es) X.env)).all (fun x => !x.1) && (backToKw cpos (keywordEach [] X.env)).all (fun x => x.1.isSome)
     && decide ((e :: es).length + ([] : List Keyword).length + (if ([] : List Keyword).isEmpty then 0 else 1) < 30)) = true:=by rfl)
    (hline : (apos.endLine == cpos.line) = true:=by rfl) (hs : starEach (e :: es) X.env = (false,eval e X.env) :: starEach es X.env:=by rfl) (hplain : (backTo cpos (starEach es X.env)).any (·.1) = false:=by rfl) :
    E en X (.Call (.Attribute o name apos) (e :: es) [] cpos) (iL ty r la l):=by
 refine PE.weak (pe_bm pa slot hty hm ho ha hbase hfew hline hs hplain) fun σ H Q ⟨S,G,Φ,s,g,q,kk⟩ => ?_
 refine ⟨S,G,_,s,g,q,fun t G1 v H1 q1 r1 g1 s1 => ⟨acW g1 r1 q1.1,?_⟩⟩
 refine ⟨S,G1,_,s.stay (s1.stay g),g1,q1.2,fun ts G2 vs H2 q2 r2 g2 s2 => ?_⟩
 exact ⟨t,ts,G2,Φ,r1.stay (s2.stay g1),r2,g2,q2,fun t' G' v' H' a b c d => kk t' G' v' H' a b c ((s1.trans s2).trans d)⟩
theorem n9 {K : Fr0} {H : Hp} {G : Gp} {p : Addr} {vs : List V} {ts ts0 : List T} (g : HRel K en H G) (e : G p = some (.lst ts0)) (r : RelL K H vs ts) : HRel K en (L2.upd H p (.lst vs)) (gup G p (.lst ts)) /\ Step H G (L2.upd H p (.lst vs)) (gup G p (.lst ts)) /\ a9 K H (L2.upd H p (.lst vs)) :=
 g.upd (a:=p) (ho:=.lst vs) (o:=.lst ts) (.inr ⟨_,e,fun n z => by cases z⟩) (fun n z => by cases z) ⟨vs,upd_same,RelL.stay (fc g e (fun n z => by cases z)) r⟩
def iD : f6:=fun t ts G Φ => match t,ts with
 | .ref a,[u] => (match G a with
  | some (.lst xs) => xs.length < sizeLine /\ Φ .non (gup G a (.lst (xs ++ [u])))
  | _ => False)
 | _,_ => False
theorem m_append : MtR X "list.append" (pG X.K en iD):=by
 refine MtR.weak (show MtR X "list.append" rAppend from mt_append) fun x xs H Q ⟨t,ts,G,Φ,rt,rs,g,q,kk⟩ => ?_
 unfold iD at q
 split at q
 . split at q
   . rename_i xs e1
     cases rt
     cases rs with
     | cons r1 r2 =>
      cases r2
      obtain ⟨vs,h1,r3⟩:=g.obj _ _ e1
      obtain ⟨g2,s2,_⟩:=n9 g e1 (r3.app (.cons r1 .nil))
      exact ⟨_,vs,_,rfl,rfl,h1,by rw [r3.length]; exact q.1,kk _ _ _ _ q.2 .non g2 s2⟩
   . exact q.elim
 . exact q.elim
def lz : f6:=fun t ts G Φ => match t,ts with
 | .ref a,[.ref b] => (match G a,G b with
  | some (.lst xs),some (.lst ys) => xs.length + ys.length <= sizeLine /\ Φ .non (gup G a (.lst (xs ++ ys)))
  | _,_ => False)
 | _,_ => False
theorem m_extend : MtR X "list.extend" (pG X.K en lz):=by
 refine MtR.weak (show MtR X "list.extend" rExtend from mt_extend) fun x xs H Q ⟨t,ts,G,Φ,rt,rs,g,q,kk⟩ => ?_
 unfold lz at q
 split at q
 . split at q
   . rename_i xs ys e1 e2
     cases rt
     cases rs with
     | cons r1 r2 =>
      cases r1
      cases r2
      obtain ⟨vs,h1,r3⟩:=g.obj _ _ e1
      obtain ⟨ws,h2,r4⟩:=g.obj _ _ e2
      obtain ⟨g2,s2,_⟩:=n9 g e1 (r3.app r4)
      exact ⟨_,_,vs,ws,rfl,rfl,h1,h2,by rw [r3.length,r4.length]; exact q.1,kk _ _ _ _ q.2 .non g2 s2⟩
   . exact q.elim
 . exact q.elim
def gJ : f6:=fun t ts G Φ => match t,ts with
 | .ref a,[] => (match G a with
  | some (.lst xs) => (match xs[xs.length - 1]? with
   | some u => Φ u (gup G a (.lst xs.dropLast))
   | none => False)
  | _ => False)
 | .ref a,[.int i] => (match G a with
  | some (.lst xs) => (0 <= i /\ i < 2 ^ 63) /\ (match xs[i.toNat]? with
   | some u => Φ u (gup G a (.lst (xs.eraseIdx i.toNat)))
   | none => False)
  | _ => False)
 | _,_ => False
theorem RelL.dropLast {K : Fr0} {H : Hp} {vs : List V} {ts : List T} (r : RelL K H vs ts) : RelL K H vs.dropLast ts.dropLast:=by
 rw [List.dropLast_eq_take,List.dropLast_eq_take,r.length]
 exact r.take _
theorem aes : MtR X "list.pop" (pG X.K en gJ):=by
 refine MtR.weak (MtR.or (show MtR X "list.pop" rPop from mt_pop) (show MtR X "list.pop" rPopAt from mt_popAt)) fun x xs H Q ⟨t,ts,G,Φ,rt,rs,g,q,kk⟩ => ?_
 unfold gJ at q
 split at q
 . split at q
   . rename_i xs e1
     split at q
     . rename_i u e2
       cases rt
       cases rs
       obtain ⟨vs,h1,r3⟩:=g.obj _ _ e1
       obtain ⟨v,h2,r4⟩:=r3.get e2
       obtain ⟨g2,s2,st⟩:=n9 g e1 r3.dropLast
       exact .inl ⟨_,vs,v,rfl,rfl,h1,by rw [r3.length]; exact h2,kk _ _ _ _ q (r4.stay st) g2 s2⟩
     . exact q.elim
   . exact q.elim
 . split at q
   . rename_i xs e1
     obtain ⟨h0,q⟩:=q
     split at q
     . rename_i i _ _ u e2
       cases rt
       cases rs with
       | cons r1 r2 =>
        cases r1
        cases r2
        obtain ⟨vs,h1,r3⟩:=g.obj _ _ e1
        obtain ⟨v,h2,r4⟩:=r3.get e2
        obtain ⟨g2,s2,st⟩:=n9 g e1 (r3.erase i.toNat)
        have hlt : i.toNat < vs.length:=(List.getElem?_eq_some_iff.mp h2).1
        exact .inr ⟨_,vs,i,i.toNat,v,rfl,rfl,h1,by omega,h0.2,seqIndex_of h0.1 (by omega),h2,kk _ _ _ _ q (r4.stay st) g2 s2⟩
     . exact q.elim
   . exact q.elim
 . exact q.elim
end
end Dv
noncomputable section
namespace Dv
open PySem PySem.Spec PyProof.Rows L2
variable [Dv.Wld]
def cI (Φ : QT) : QT:=fun t G' => ∃ G'',Sub G'' G' /\ Φ t G''
abbrev gj (Φ : QT) : LEnds:={ nx:=fun _ G' => cI Φ .non G',rt:=cI Φ }
def bo (N : List Str) (ts : List T) : S2:=ts.map some ++ List.replicate (N.length - ts.length) none
theorem qz {K : Fr0} {H : Hp} {N : List Str} {vs : List V} {ts : List T} (r : RelL K H vs ts) : SRel K H (L2.start N vs) (bo N ts):=by
 refine ⟨by unfold L2.start bo; simp [r.length],fun i t e => ?_⟩
 unfold bo at e
 unfold L2.start
 by_cases h : i < ts.length
 . rw [List.getElem?_append_left (by simpa using h),List.getElem?_map] at e
   cases q : ts[i]? with
   | none => rw [q] at e; cases e
   | some u =>
    rw [q] at e
    cases e
    obtain ⟨v,e1,e2⟩:=r.get q
    exact ⟨v,by rw [List.getElem?_append_left (by rw [List.length_map,r.length]; exact h),List.getElem?_map,e1]; rfl,e2⟩
 . rw [List.getElem?_append_right (by simpa using h)] at e
   rw [List.getElem?_replicate] at e
   split at e <;> cases e
theorem sW {K : Fr0} {H : Hp} {G : Gp} {Φ : QT} {Q : VK} (k : ∀ t G' v H',Φ t G' -> Rel K H' v t -> HRel K [] H' G' -> Step H G H' G' -> Q v H') : EndsOk K [(H,G)] H G (gj Φ) { nx:=fun _ H' => Q .non H',rt:=Q }:=by
 have fin : ∀ t G' v H',cI Φ t G' -> Rel K H' v t -> HRel K [(H,G)] H' G' -> Q v H':=fun t G' v H' ⟨G2,s,q⟩ r g =>
  k t G2 v H' q r (g.sub s).nil ((g.hist _ (List.mem_singleton.mpr rfl)).sub s)
 exact ⟨fun S' G' σ' H' q _ g _ => fin _ _ _ _ q .non g,fun t G' v H' q r g _ => fin _ _ _ _ q r g,fun _ _ _ _ q => q.elim,fun _ _ _ _ q => q.elim⟩
section
variable {P : Program} {w : World} {K : Fr0} {mg : Str -> Option Value} {base : Heap} {x qual : Str} {st : Stmt} {f : Addr} {fd : FuncData} {N ps : List Str} {k : Nat} {sp : aI}
abbrev bx (P : Program) (w : World) (K : Fr0) (mg : Str -> Option Value) (base : Heap) (N : List Str) (qual : Str) (scope : Scope) (f : Addr) (cdv : Value) (A : Around) (outer : List Env) (s : Shared) (H : Hp) (E : XK) : Cx :=
 cxOf (L2.CX P w) P w K mg base N qual scope f cdv A outer s H E
abbrev nY (K : Fr0) (H : Hp) (G : Gp) (E2 : cW) (E : XK) : Prop:=∀ C fs G' H' cls d,E2 C fs G' -> pC K H' cls d C fs -> HRel K [] H' G' -> Step H G H' G' -> E cls d H'
abbrev BodyOk (P : Program) (w : World) (K : Fr0) (mg : Str -> Option Value) (base : Heap) (N : List Str) (qual : Str) (scope : Scope) (f : Addr) (k : Nat) (body : List Stmt) (sp : aI) : Prop :=
 ∀ (cdv : Value) (A : Around) (outer : List Env) (s : Shared) (H : Hp) (E : XK) (ts : List T) (G : Gp) (Φ : QT) (ΦE : cW),Room k (A.deeper (envOfC qual scope s.heap.objs.size f cdv)) -> nY K H G ΦE E -> sp ts G Φ ΦE ->
  ∃ l,dj [(H,G)] (bx P w K mg base N qual scope f cdv A outer s H E) body l /\ l (gj Φ) (bo N ts) G
theorem aaW {scope : Scope} {body : List Stmt} (hbody : BodyOk P w K mg base N qual scope f k body sp) (cdv : Value) (A : Around) (outer : List Env) (s : Shared) (H : Hp) (vs : List V) (Q : VK) (E : XK)
 (hr : Room k (A.deeper (envOfC qual scope s.heap.objs.size f cdv))) (h : cZ K sp vs H Q E) :
 ∃ t,PSs (bx P w K mg base N qual scope f cdv A outer s H E) body t /\ t { nx:=fun _ H' => Q .non H',rt:=Q } (L2.start N vs) H:=by
 obtain ⟨ts,G,Φ,ΦE,r,g,q,k1,k2⟩:=h
 obtain ⟨l,b,q2⟩:=hbody cdv A outer s H E ts G Φ ΦE hr k2 q
 exact ⟨_,b,bo N ts,G,gj Φ,qz r,g.enter,q2,sW k1⟩
theorem acs (len : ∀ ts G Φ ΦE,sp ts G Φ ΦE -> ts.length = ps.length) : ∀ vs H Q E,cZ K sp vs H Q E -> vs.length = ps.length:=fun vs H Q E ⟨ts,G,Φ,ΦE,r,_,q,_⟩ => r.length.trans (len _ _ _ _ q)
theorem nh (F : Fun K x qual st f fd) (S : FnScope N ps (defScope st)) (len : ∀ ts G Φ ΦE,sp ts G Φ ΦE -> ts.length = ps.length) (hbody : BodyOk P w K mg base N qual (defScope st) f k (defBody st) sp) :
    FnOk P w K mg base (L2.CX P w) (k + 1) f fd ps (cZ K sp):=F.okX S (acs len) fun cdv A outer s H vs Q E hr h => aaW hbody cdv A outer s H vs Q E hr h
theorem FnOk.impT {CX : CXT} {sp' : aI} (F : FnOk P w K mg base CX k f fd ps (cZ K sp)) (h : ∀ ts G Φ ΦE,sp' ts G Φ ΦE -> sp ts G Φ ΦE) : FnOk P w K mg base CX k f fd ps (cZ K sp') :=
 F.imp fun vs H Q E ⟨ts,G,Φ,ΦE,r,g,q,a,b⟩ => ⟨ts,G,Φ,ΦE,r,g,h _ _ _ _ q,a,b⟩
end
theorem Sub.gup {G : Gp} {a : Addr} {o : O} (h : G a = none) : Sub G (gup G a o):=fun b u e => by
 rw [ao (fun z => by rw [z,h] at e; cases e)]
 exact e
theorem Sub.trans {G G1 G2 : Gp} (a : Sub G G1) (b : Sub G1 G2) : Sub G G2:=fun x o e => b x o (a x o e)
theorem Sub.gup2 {G G' : Gp} {a : Addr} {o : O} (h : Sub G G') : Sub (Dv.gup G a o) (Dv.gup G' a o):=fun b u e => by
 by_cases z : b = a
 . subst z; rw [aH] at e ⊢; exact e
 . rw [ao z] at e ⊢; exact h b u e
theorem cI.of {Φ : QT} {t : T} {G : Gp} (h : Φ t G) : cI Φ t G:=⟨G,Sub.refl G,h⟩
theorem cI.sub {Φ : QT} {t : T} {G G' : Gp} (s : Sub G G') (h : Φ t G) : cI Φ t G':=⟨G,s,h⟩
theorem cI.up {Φ : QT} {t : T} {G G' : Gp} (h : cI Φ t G) (s : Sub G G') : cI Φ t G':=let ⟨G0,s0,q⟩:=h; ⟨G0,s0.trans s,q⟩
section
variable {X : Cx} {CX : CXT} {a b c e o iter tg elt kx vx : Expr} {es ifs : List Expr} {la lb lv te tk tv : LE} {tt : LT} {l lk : LA} {pos p p2 apos cpos spos py : Pos} {k n : Nat} {x m y : Str} {w : LI} {f : T -> S2 -> Option S2} {vs : List Nat} {scope : Scope} {own : List (Str × Nat)}
def gz (t : T) : LE:=fun _ G Φ => Φ t G
theorem rB {t : T} {v : V} {u : Value} (r : ∀ H,Rel X.K H v t) (hg : Gl X x:=by rfl) (hm : X.mg x = some u) (rv : RelV v u) (hd : (x == ("__debug__" : Str)) = false:=by decide) : E en X (.Name x pos) (gz t) :=
 PE.weak (pe_glob hg hm rv hd) fun σ H Q ⟨S,G,Φ,s,g,q,k⟩ => k t G v H q (r H) g (Step.refl H G)
end
section
variable {X : Cx} {CX : CXT} {a b c e o iter tg elt kx vx : Expr} {es ifs : List Expr} {la lb lv te tk tv : LE} {tt : LT} {l lk : LA} {pos p p2 apos cpos spos py : Pos} {k n : Nat} {x m y : Str} {w : LI} {f : T -> S2 -> Option S2} {vs : List Nat} {scope : Scope}
def slotsOf (own : List (Str × Nat)) : List Nat:=own.map fun z => z.2
theorem nT : slotsOf [] = []:=rfl
theorem oz {p : Str × Nat} {r : List (Str × Nat)} : slotsOf (p :: r) = p.2 :: slotsOf r:=rfl
abbrev cj (X : Cx) (scope : Scope) (P : Cx -> Prop) : Prop:=∀ (s : Shared) (H : Hp) (C : Addr) (cl : List (Str × Addr)) (fp : List Addr),P (X.blk s H scope (compEnvC scope cl C X.env) fp)
theorem jq (own : List (Str × Nat)) (hN : X.N.Nodup) (hi : Ei en X tg iter w) (hg : cj X scope fun Y => Eg Y tg f (slotsOf own)) (ht : cj X scope fun Y => gX en Y ifs tt) (he : cj X scope fun Y => E en Y elt te)
 (hc : X.calm = true:=by rfl) (ok : blkC X.N X.env.scope scope own = true:=by rfl) (hs : ∀ x,foldedSetIterable iter X.env x = pure x:=by intro _; rfl) :
    E en X (.ListComp elt [⟨tg,iter,ifs,0⟩] scope pos) (fH w f (slotsOf own) tt te) :=
 PE.weak (pe_lc (g:=kg X.K f (slotsOf own)) (tt:=gC X.K en tt) (te:=low X.K en te) hc hN hi (blkOk_by ok) hg ht he hs) yu
theorem wR (own : List (Str × Nat)) {j : Nat} (hN : X.N.Nodup) (hi : Ei en X tg iter w) (hg : cj X scope fun Y => Eg Y tg f (slotsOf own)) (ht : cj X scope fun Y => gX en Y ifs tt) (he : cj X scope fun Y => E en Y elt te)
 (hy : X.N[j]? = some y:=by rfl) (hyl : X.env.scope.names.lookup y = some .local:=by rfl) (hc : X.calm = true:=by rfl) (ok : blkC X.N X.env.scope scope own = true:=by rfl) (hs : ∀ x,foldedSetIterable iter X.env x = pure x:=by intro _; rfl)
 (hsw : swapsWith (.ListComp elt [⟨tg,iter,ifs,0⟩] scope pos) (some (.Name y py)) spos.line X.env = pure true:=by rfl) :
    Es en X (.Assign [.Name y py] (.ListComp elt [⟨tg,iter,ifs,0⟩] scope pos) spos) (lM (fH w f (slotsOf own) tt te) (gN j)) :=
 PS.weak (ps_setLc (g:=kg X.K f (slotsOf own)) (tt:=gC X.K en tt) (te:=low X.K en te) (i:=j) hc hN hy hyl hsw hi (blkOk_by ok) hg ht he hs) fun D σ H ⟨S,G,L,s,g,q,ends⟩ => by
  refine yu σ H _ ⟨S,G,_,s,g,q,fun t G1 v H1 q1 r1 g1 s1 => ?_⟩
  simp only [gN] at q1
  exact ends.nx _ G1 _ H1 q1 ((s.stay (s1.stay g)).set r1 j) g1 s1
theorem xf (own : List (Str × Nat)) (hN : X.N.Nodup) (hi : Ei en X tg iter w) (hg : cj X scope fun Y => Eg Y tg f (slotsOf own)) (ht : cj X scope fun Y => gX en Y ifs tt) (hk : cj X scope fun Y => E en Y kx tk) (hv : cj X scope fun Y => E en Y vx tv)
 (hc : X.calm = true:=by rfl) (ok : blkC X.N X.env.scope scope own = true:=by rfl) (hs : ∀ x,foldedSetIterable iter X.env x = pure x:=by intro _; rfl) :
    E en X (.DictComp kx vx [⟨tg,iter,ifs,0⟩] scope pos) (lm w f (slotsOf own) tt tk tv) :=
 PE.weak (pe_dc (g:=kg X.K f (slotsOf own)) (tt:=gC X.K en tt) (tk:=low X.K en tk) (tv:=low X.K en tv) hc hN hi (blkOk_by ok) hg ht hk hv hs) ab2
def eD (t : T) (G : Gp) : Option String:=match t with
 | .non => some "NoneType" | .bl _ => some "bool" | .int _ => some "int" | .str _ => some "str" | .tup _ => some "tuple" | .ty _ => none | .ptup _ => some "tuple" | .exc _ _ _ => none | .lam _ => none
 | .ref a => match G a with
  | some (.lst _) => some "list"
  | some (.dic _) => some "dict"
  | some (.fdic _ _ _) => some "dict"
  | some (.dicN _) => some "dict"
  | some (.fdicN _ _ _) => some "dict"
  | _ => none
def ol (K : Fr0) (H : Hp) (v : V) (t : Value) : Prop:=TyX K H v t \/ (t = .type "dict" /\ ∃ d raw,v = .ref d /\ Rd H d (aL Dv.Wld.w d raw))
theorem xS {X : Cx} {pins : List (Addr × Obj)} {σ : L2.St} {H : Hp} {s : Shared} {x : V} {u t : Value} (I : Inv X pins σ H s) (rx : RelV x u) (ty : ol X.K H x t) : ∃ P : Heap -> Prop,PySem.W.KitX X.K u t P /\ P s.heap /\ u ≠ .builtin "__main__.__loader__#opaque":=by
 rcases ty with ty | ⟨rfl,d,raw,rfl,h⟩
 . exact kit_of I rx ty
 . cases (show u = Value.ref d from rx)
   obtain ⟨⟨⟨z,hs⟩,o,es,ep,xs,ho,hx,hdt,he,hn,rel⟩,_⟩:=(show ObjOk X.prog X.w H s.heap d (aL Dv.Wld.w d raw) from h.ok I.hok)
   exact ⟨_,PySem.W.kitx_dict,⟨o,ho,hx.1⟩,fun z => nomatch z⟩
def ae9 (K : Fr0) : List V -> Hp -> VK -> Prop:=fun xs H Q => ∃ (x c : V) (t u : Value) (b : Bool),xs = [x,c] /\ ClsV c u /\ ol K H x t /\ PySem.W.kitOne K t u = some b /\ Q (.bl b) H
def yx (K : Fr0) : List V -> Hp -> VK -> Prop:=fun xs H Q => ∃ (x : V) (tp : Addr) (cs : List V) (t : Value) (us : List Value) (b : Bool),xs = [x,.ref tp] /\ H tp = some (.tup cs) /\ Paired ClsV cs us /\ ol K H x t /\ PySem.W.kitAny K t us = some b /\ Q (.bl b) H
theorem qh {X : Cx} : CallR X (.builtin "isinstance") (ae9 X.K):=by
 intro pins s σ H xs us Q I r h
 obtain ⟨x,c,t,u,b,rfl,k,ty,e,q⟩:=h
 obtain ⟨u1,u2,rfl,r1,r2⟩:=vals2 r
 have e2:=k.eq r2
 subst e2
 obtain ⟨P,Z,p,hx⟩:=xS I r1 ty
 exact PySem.W.kia_one Z I.kIn p e hx fun tk => ⟨.bl b,H,I.tok tk,rfl,q⟩
theorem adC {X : Cx} : CallR X (.builtin "isinstance") (yx X.K):=by
 intro pins s σ H xs us Q I r h
 obtain ⟨x,tp,cs,t,ws,b,rfl,hT,k,ty,e,q⟩:=h
 obtain ⟨u1,u2,rfl,r1,r2⟩:=vals2 r
 cases (show u2 = Value.ref tp from r2)
 obtain ⟨P,Z,p,hx⟩:=xS I r1 ty
 obtain ⟨_,its,rv,o,h1,h2,n,h3⟩:=(show ObjOk X.prog X.w H s.heap tp (.tup cs) from I.hok tp _ hT)
 have e3:=ClsV.all k rv
 subst e3
 obtain ⟨oc,od,dt,sl⟩:=o
 simp only at h2 h3
 subst h2 h3
 exact PySem.W.kia_tup Z I.kIn p h1 e hx fun tk => ⟨.bl b,H,I.tok tk,rfl,q⟩
def aQ (a b : String) : Bool:=a == b || (a == "bool" && b == "int")
def cN : List String:=["bool","int","str","tuple","list","dict"]
theorem pS {m n : String} (hm : m ∈ "NoneType" :: cN) (hn : n ∈ cN) : kitB m n = some (aQ m n):=by
 have h : ∀ m ∈ "NoneType" :: cN,∀ n ∈ cN,kitB m n = some (aQ m n):=by decide +kernel
 exact h m hm n hn
theorem vj {K : Fr0} {H : Hp} {G : Gp} {t : T} {v : V} {m : String} (g : HRel K en H G) (r : Rel K H v t) (h : eD t G = some m) : ol K H v (.type m) /\ m ∈ "NoneType" :: cN:=by
 cases r with
 | non => cases h; exact ⟨.inl (.base .non),by decide⟩
 | bl b => cases h; exact ⟨.inl (.base (.bl b)),by decide⟩
 | int i => cases h; exact ⟨.inl (.base (.int i)),by decide⟩
 | str x => cases h; exact ⟨.inl (.base (.str x)),by decide⟩
 | ty n => cases h
 | tup q _ =>
  cases h
  refine ⟨?_,by decide⟩
  rcases q with (q | ⟨o,q⟩) | ⟨o,its,n,q,c,_⟩
  . exact .inl (.base (.tup q))
  . exact .inl (.fTuple q)
  . exact .inl (.kTuple q c)
 | exc _ _ _ _ _ => cases h
 | lam _ _ => cases h
 | ptup q _ _ => cases h; exact ⟨.inl (.fTuple q),by decide⟩
 | ref a =>
  simp only [eD] at h
  split at h
  . rename_i xs e
    cases h
    obtain ⟨vs,h1,_⟩:=g.obj _ _ e
    exact ⟨.inl (.base (.lst h1)),by decide⟩
  . rename_i xs e
    cases h
    obtain ⟨vs,h1,_⟩:=g.obj _ _ e
    exact ⟨.inl (.base (.dK h1)),by decide⟩
  . rename_i ob vs xs e
    cases h
    obtain ⟨h1,_⟩:=g.obj _ _ e
    exact ⟨.inl (.fDict h1),by decide⟩
  . rename_i xs e
    cases h
    obtain ⟨raw,h1,_⟩:=g.obj _ _ e
    exact ⟨.inr ⟨rfl,_,raw,rfl,.inl h1⟩,by decide⟩
  . rename_i ob raw xs e
    cases h
    obtain ⟨h1,_⟩:=g.obj _ _ e
    exact ⟨.inr ⟨rfl,_,raw,rfl,.inr ⟨_,h1⟩⟩,by decide⟩
  . cases h
def jF : cw:=fun ts G Φ => match ts with
 | [t,.ty n] => n ∈ cN /\ (match eD t G with
  | some m => Φ (.bl (aQ m n)) G
  | none => False)
 | _ => False
theorem aaH : CallR X (.builtin "isinstance") (dz X.K en jF):=by
 intro pins s σ H xs us Q I r ⟨ts,G,Φ,rs,g,q,kk⟩
 unfold jF at q
 split at q
 . rename_i t n
   obtain ⟨hn,q⟩:=q
   split at q
   . rename_i m e
     cases rs with
     | cons r1 r2 =>
      cases r2 with
      | cons r2 r3 =>
       cases r2
       cases r3
       obtain ⟨h1,h2⟩:=vj g r1 e
       exact qh pins s σ H _ us Q I r ⟨_,_,_,_,_,rfl,.ty n,h1,kit_ty (pS h2 hn),kk _ _ _ _ q (.bl _) g (Step.refl H G)⟩
   . exact q.elim
 . exact q.elim
theorem dE {n : String} (hg : Gl X x:=by rfl) (hm : X.mg x = none) (hv : bootBuiltins x = some (.type n):=by rfl) (hn : x ≠ "__name__":=by decide) (hd : (x == ("__debug__" : Str)) = false:=by decide) : E en X (.Name x pos) (gz (.ty n)) :=
 PE.weak (pe_bltn (v:=.ty n) hg hm hv rfl hn hd) fun σ H Q ⟨S,G,Φ,s,g,q,k⟩ => k (.ty n) G (.ty n) H q (.ty n) g (Step.refl H G)
abbrev iT:=S2 -> Gp -> (List (T × T) -> Gp -> Prop) -> Prop
def sw (lp : iT) : LE:=fun S G Φ => lp S G fun ps G1 => (ps.all fun kv => (bK kv.1).isSome) = true /\ ps.length <= 15 /\ ∀ a,G1 a = none -> Φ (.ref a) (gup G1 a (.dic (jE [] ps)))
def rZ : iT:=fun _ G Φ => Φ [] G
def tG (lk lv : LE) (lr : iT) : iT:=fun S G Φ => lk S G fun t G1 => lv S G1 fun u G2 => lr S G2 fun ps G3 => Φ ((t,u) :: ps) G3
inductive RelP (K : Fr0) (H : Hp) : List (V × V) -> List (T × T) -> Prop
 | nil : RelP K H [] []
 | cons {x y : V} {t u : T} {ps : List (V × V)} {qs : List (T × T)} : Rel K H x t -> Rel K H y u -> RelP K H ps qs -> RelP K H ((x,y) :: ps) ((t,u) :: qs)
theorem RelP.stay {K : Fr0} {H H' : Hp} (st : a9 K H H') : ∀ {vs : List (V × V)} {ts : List (T × T)},RelP K H vs ts -> RelP K H' vs ts
 | _,_,.nil => .nil
 | _,_,.cons r r2 t => .cons (r.stay st) (r2.stay st) (RelP.stay st t)
theorem RelP.keys {K : Fr0} {H : Hp} : ∀ {vs : List (V × V)} {ts : List (T × T)},RelP K H vs ts -> (ts.all fun kv => (bK kv.1).isSome) = true -> ∃ kvs : List (Key × V),vs = kvs.map (fun kv => (kV kv.1,kv.2)) /\ RelD K H kvs ts
 | _,_,.nil,_ => ⟨[],rfl,.nil⟩
 | _,_,.cons (y:=y) r r2 t,h => by
  rw [List.all_cons,Bool.and_eq_true] at h
  obtain ⟨k0,ek⟩:=Option.isSome_iff_exists.mp h.1
  have eu:=f7 ek
  simp only at eu
  subst eu
  obtain ⟨kvs,e,q⟩:=RelP.keys t h.2
  exact ⟨(k0,y) :: kvs,by rw [e,r.key]; rfl,.cons r2 q⟩
theorem RelP.length {K : Fr0} {H : Hp} : ∀ {vs : List (V × V)} {ts : List (T × T)},RelP K H vs ts -> vs.length = ts.length
 | _,_,.nil => rfl
 | _,_,.cons _ _ t => congrArg Nat.succ (RelP.length t)
def lowP (K : Fr0) (en : En) (lp : iT) (σ : L2.St) (H : Hp) (Q : List (V × V) -> Hp -> Prop) : Prop:=∃ S G Φ,SRel K H σ S /\ HRel K en H G /\ lp S G Φ /\ ∀ ps G' vs H',Φ ps G' -> RelP K H' vs ps -> HRel K en H' G' -> Step H G H' G' -> Q vs H'
structure Ep (en : En) (X : Cx) (pos : Pos) (keys : List (Option Expr)) (values : List Expr) (lp : iT) : Prop where
 ex : ∃ trs,PPs X pos keys values trs /\ ∀ σ H Q,lowP X.K en lp σ H Q -> tPairs trs σ H Q
theorem afk : Ep en X pos [] [] rZ:=⟨[],pps_nil,fun σ H Q ⟨S,G,Φ,s,g,q,k⟩ => k [] G [] H q .nil g (Step.refl H G)⟩
theorem ou {ks : List (Option Expr)} {lr : iT} (hk : E en X kx tk) (hv : E en X vx tv) (hr : Ep en X pos ks es lr) : Ep en X pos (some kx :: ks) (vx :: es) (tG tk tv lr):=by
 obtain ⟨trs,h,w⟩:=hr.ex
 refine ⟨(low X.K en tk,low X.K en tv) :: trs,pps_cons hk hv h,fun σ H Q ⟨S,G,Φ,s,g,q,k⟩ => ?_⟩
 refine ⟨S,G,_,s,g,q,fun t G1 v H1 q1 r1 g1 s1 => ?_⟩
 refine ⟨S,G1,_,s.stay (s1.stay g),g1,q1,fun u G2 y H2 q2 r2 g2 s2 => ?_⟩
 refine w _ _ _ ⟨S,G2,_,(s.stay (s1.stay g)).stay (s2.stay g1),g2,q2,fun ps G3 vs H3 q3 r3 g3 s3 => ?_⟩
 exact k _ G3 _ H3 q3 (.cons ((r1.stay (s2.stay g1)).stay (s3.stay g2)) (r2.stay (s3.stay g2)) r3) g3 ((s1.trans s2).trans s3)
theorem ac7 {K : Fr0} {H : Hp} {G : Gp} {D : Addr} (g : HRel K en H G) (hD : H D = none) : ∀ e ∈ en,∀ o,e.1 D = some o -> ∃ ps,o = .tbl ps:=by
 intro e he o z
 refine Classical.byContradiction fun y => ?_
 obtain ⟨u',e',_⟩:=(g.hist e he).al D o z fun ps z => y ⟨ps,z⟩
 rw [hD] at e'
 cases e'
theorem aaj {keys : List (Option Expr)} {lp : iT} (h : Ep en X pos keys es lp) (hall : keys.all (·.isSome) = true:=by rfl) (hl : keys.length = es.length:=by rfl) (h0 : keys ≠ []:=by simp) (h15 : keys.length <= 15:=by decide) :
    E en X (.Dict keys es pos) (sw lp):=by
 obtain ⟨trs,hp,wk⟩:=h.ex
 refine PE.weak (pe_disp hp hall hl h0 h15) fun σ H Q ⟨S,G,Φ,s,g,q,k⟩ => ?_
 intro D hD
 obtain ⟨g1,t1,st1⟩:=g.laid (ho:=.dK []) hD
 have no1 : ¬ Own (L2.upd H D (.dK [])) G D:=fun z => j4 g hD ((gU (j4 g hD)).mp z)
 refine wk _ _ _ ⟨S,G,_,s.stay st1,g1,q,fun ps G2 vs H2 q2 r2 g2 s2 => ?_⟩
 obtain ⟨hk,hl15,q2⟩:=q2
 obtain ⟨hD2,no2⟩:=s2.fr D _ upd_same (fun ps z => by cases z) no1
 obtain ⟨kvs,e,rk⟩:=r2.keys hk
 have gD : G2 D = none:=by
  cases z : G2 D with
  | none => rfl
  | some u => exact absurd (.inl ⟨u,z⟩) no2
 have hen:=ac7 g hD
 obtain ⟨g3,st3⟩:=g2.under (ho:=.dK (mergeK [] kvs)) no2 hD2 rfl hen
 have no3 : ¬ Own (L2.upd H2 D (.dK (mergeK [] kvs))) G2 D:=fun z => no2 ((gU no2).mp z)
 refine ⟨hD2,kvs,e,by rw [rk.length]; exact hl15,k _ _ _ _ (q2 D gD) (.ref D) (g3.adopt no3 (fun n z => by cases z) ⟨_,upd_same,(RelD.merge (rk.stay st3) .nil)⟩ hen) ?_⟩
 have hD' : ∀ o,H D = some o -> ∃ ps,o = .tbl ps:=fun o z => by rw [hD] at z; cases z
 exact ((t1.trans s2).under hD' no2).adopt hD' (fun n z => by cases z)
theorem aem : E en X (.Dict [] [] pos) (fun _ G Φ => ∀ a,G a = none -> Φ (.ref a) (gup G a (.dic []))):=PE.weak pe_dnewK fun σ H Q ⟨S,G,Φ,s,g,q,k⟩ p hp => by
 obtain ⟨g2,s2⟩:=n4 g hp .nil
 exact k _ _ _ _ (q p (g.fresh hp)) (.ref p) g2 s2
end
section
variable {X : Cx} {CX : CXT} {a b c e o e1 : Expr} {es ifs : List Expr} {la lb lv lx : LE} {l lk : LA} {pos p p2 apos cpos spos py : Pos} {k n : Nat} {x m y : Str} {fd : FuncData} {f C : Addr} {ps ks : List Str} {sp : aI} {E2 : cW} {kws : List Keyword} {g : List Value -> List Value -> List Value} {gV : List V -> List V -> List V} {gT : List T -> List T -> List T}
def vP : List T -> Option (List Str)
 | [] => some []
 | .str s :: r => (match vP r with
  | some ss => some (s :: ss)
  | none => none)
 | _ => none
def abI : f6:=fun t ts G Φ => match t,ts with
 | .tup xs,[.str z] => (match vP xs with
  | some ys => z ∈ ys /\ Φ (.int (ys.idxOf z : Nat)) G
  | none => False)
 | _,_ => False
end
section
variable {P : Program} {w : World} {K : Fr0} {mg : Str -> Option Value} {base : Heap} {x : Str} {st : Stmt} {N ps : List Str} {k j : Nat} {sp : aI} {dts : List T}
structure Df (K : Fr0) (mg : Str -> Option Value) (x : Str) (st : Stmt) (ps : List Str) : Prop where
 ex : ∃ (f : Addr) (fd : FuncData),Fun K x x st f fd /\ mg x = some (.ref f) /\ Binds K fd ps []
structure Kn (P : Program) (w : World) (K : Fr0) (mg : Str -> Option Value) (base : Heap) (k : Nat) (x : Str) (sp : aI) (dts : List T) : Prop where
 ex : ∃ (f : Addr) (fd : FuncData) (ps : List Str) (dvs : List V) (ds : List Value),FnOk P w K mg base (L2.CX P w) k f fd ps (cZ K sp) /\ mg x = some (.ref f) /\ PySem.W.keepIn K (.ref f) = true /\ Binds K fd ps ds /\ Vals dvs ds /\ ∀ H,RelL K H dvs dts
theorem Kn.mono (F : Kn P w K mg base j x sp dts) (h : j <= k) : Kn P w K mg base k x sp dts:=by
 obtain ⟨f,fd,ps,dvs,ds,a,r⟩:=F.ex
 exact ⟨f,fd,ps,dvs,ds,a.mono h,r⟩
theorem Kn.imp {sp' : aI} (F : Kn P w K mg base k x sp dts) (h : ∀ ts G Φ ΦE,sp' ts G Φ ΦE -> sp ts G Φ ΦE) : Kn P w K mg base k x sp' dts:=by
 obtain ⟨f,fd,ps,dvs,ds,a,r⟩:=F.ex
 exact ⟨f,fd,ps,dvs,ds,FnOk.impT a h,r⟩
theorem mX (D : Df K mg x st ps) (S : FnScope N ps (defScope st)) (len : ∀ ts G Φ ΦE,sp ts G Φ ΦE -> ts.length = ps.length) (hbody : ∀ f,BodyOk P w K mg base N x (defScope st) f k (defBody st) sp) : Kn P w K mg base (k + 1) x sp []:=by
 obtain ⟨f,fd,F,hm,hb⟩:=D.ex
 exact ⟨f,fd,ps,[],[],nh F S len (hbody f),hm,F.kp,hb,.nil,fun H => .nil⟩
end
section
variable {X : Cx} {a b c e o e1 : Expr} {es ifs : List Expr} {la lb lv lx : LE} {l lk : LA} {pos p p2 apos cpos spos py : Pos} {k n : Nat} {x m y : Str} {sp : aI} {dts : List T}
theorem aY (F : Kn X.prog X.w X.K X.mg X.base k x sp dts) (hr : Room k X.A) (ha : Ea en X (e :: es) l) (hg : Gl X x:=by rfl) (hdb : (x == ("__debug__" : Str)) = false:=by decide)
 (he : starEach (e :: es) X.env = (false,eval e X.env) :: starEach es X.env:=by rfl) (hpl : (backTo pos (starEach es X.env)).any (·.1) = false:=by rfl) : E en X (.Call (.Name x p) (e :: es) [] pos) (hM sp dts bH l):=by
 obtain ⟨f,fd,ps,dvs,ds,a,hm,hk,hb,hd,hdt⟩:=F.ex
 exact xj a hr hg hm hk hb hd hdt iO ha hdb he hpl
def oo (mg : Str -> Option Value) (x : Str) (i : Int) : Prop:=∃ t,mg x = some (.int i t)
def tE (mg : Str -> Option Value) (x : Str) (s : Str) : Prop:=∃ t,mg x = some (.str s t)
theorem oT {i : Int} (h : oo X.mg x i) (hg : Gl X x:=by rfl) (hd : (x == ("__debug__" : Str)) = false:=by decide) : E en X (.Name x pos) (gz (.int i)):=by
 obtain ⟨t,hm⟩:=h
 exact rB (v:=.int i) (fun _ => .int i) hg hm ⟨t,rfl⟩ hd
theorem vK {i : Str} (h : tE X.mg x i) (hg : Gl X x:=by rfl) (hd : (x == ("__debug__" : Str)) = false:=by decide) : E en X (.Name x pos) (gz (.str i)):=by
 obtain ⟨t,hm⟩:=h
 exact rB (v:=.str i) (fun _ => .str i) hg hm ⟨t,rfl⟩ hd
theorem cK (hm : X.mg "len" = none) (ha : Ea en X [e] l) (hg : Gl X "len":=by rfl) (he : starEach [e] X.env = (false,eval e X.env) :: starEach [] X.env:=by rfl) : E en X (.Call (.Name "len" p) [e] [] pos) (cq ee l) :=
 mM b_len hg hm rfl ha (he:=he)
theorem acd (hm : X.mg "abs" = none) (ha : Ea en X [e] l) (hg : Gl X "abs":=by rfl) (he : starEach [e] X.env = (false,eval e X.env) :: starEach [] X.env:=by rfl) : E en X (.Call (.Name "abs" p) [e] [] pos) (cq tV l) :=
 mM b_abs hg hm rfl ha (he:=he)
theorem mm (hm : X.mg "int" = none) (ha : Ea en X [e] l) (hg : Gl X "int":=by rfl) (he : starEach [e] X.env = (false,eval e X.env) :: starEach [] X.env:=by rfl) : E en X (.Call (.Name "int" p) [e] [] pos) (cq jv l) :=
 kI b_int hg hm rfl ha (he:=he)
theorem gY (hm : X.mg "list" = none) (ha : Ea en X [e] l) (hg : Gl X "list":=by rfl) (he : starEach [e] X.env = (false,eval e X.env) :: starEach [] X.env:=by rfl) : E en X (.Call (.Name "list" p) [e] [] pos) (cq jm l) :=
 kI b_list hg hm rfl ha (he:=he)
theorem gA (hm : X.mg "tuple" = none) (ha : Ea en X [e] l) (hg : Gl X "tuple":=by rfl) (he : starEach [e] X.env = (false,eval e X.env) :: starEach [] X.env:=by rfl) : E en X (.Call (.Name "tuple" p) [e] [] pos) (cq iN l) :=
 kI b_tuple hg hm rfl ha (he:=he)
theorem iS (hm : X.mg "sorted" = none) (ha : Ea en X [e] l) (hg : Gl X "sorted":=by rfl) (hc : X.calm = true:=by rfl) (he : starEach [e] X.env = (false,eval e X.env) :: starEach [] X.env:=by rfl) : E en X (.Call (.Name "sorted" p) [e] [] pos) (cq gI l) :=
 mM (b_sorted hc) hg hm rfl ha (he:=he)
theorem ke (hm : X.mg "dict" = none) (ha : Ea en X [e] l) (hg : Gl X "dict":=by rfl) (hc : X.calm = true:=by rfl) (he : starEach [e] X.env = (false,eval e X.env) :: starEach [] X.env:=by rfl) : E en X (.Call (.Name "dict" p) [e] [] pos) (cq fF l) :=
 kI (b_dict hc) hg hm rfl ha (he:=he)
theorem dT (hm : X.mg "isinstance" = none) (ha : Ea en X [e,e1] l) (hg : Gl X "isinstance":=by rfl) (he : starEach [e,e1] X.env = (false,eval e X.env) :: starEach [e1] X.env:=by rfl) (hpl : (backTo pos (starEach [e1] X.env)).any (·.1) = false:=by rfl) : E en X (.Call (.Name "isinstance" p) [e,e1] [] pos) (cq jF l) :=
 mM aaH hg hm rfl ha (he:=he) (hpl:=hpl)
abbrev vw (X : Cx) (e : Expr) (es : List Expr) (cpos : Pos) : Prop:=((backTo cpos (starEach (e :: es) X.env)).all (fun x => !x.1) && (backToKw cpos (keywordEach [] X.env)).all (fun x => x.1.isSome)
      && decide ((e :: es).length + ([] : List Keyword).length + (if ([] : List Keyword).isEmpty then 0 else 1) < 30)) = true
theorem fX (ho : E en X o la) (ha : Ea en X [e] l) (hbase : attributeBase o "append" X.env (eval o X.env) = eval o X.env:=by rfl) (hfew : vw X e [] cpos:=by rfl) (hline : (apos.endLine == cpos.line) = true:=by rfl) (hs : starEach [e] X.env = (false,eval e X.env) :: starEach [] X.env:=by rfl) :
    E en X (.Call (.Attribute o "append" apos) [e] [] cpos) (iL "list" iD la l):=uW PySem.F.plainAttrs_list PySem.F.slot_list_append PySem.F.type_list_append m_append ho ha hbase hfew hline hs
theorem wm (ho : E en X o la) (ha : Ea en X [e] l) (hbase : attributeBase o "extend" X.env (eval o X.env) = eval o X.env:=by rfl) (hfew : vw X e [] cpos:=by rfl) (hline : (apos.endLine == cpos.line) = true:=by rfl) (hs : starEach [e] X.env = (false,eval e X.env) :: starEach [] X.env:=by rfl) :
    E en X (.Call (.Attribute o "extend" apos) [e] [] cpos) (iL "list" lz la l):=uW PySem.F.plainAttrs_list PySem.F.slot_list_extend PySem.F.type_list_extend m_extend ho ha hbase hfew hline hs
theorem yD (ho : E en X o la) (ha : Ea en X [e] l) (hbase : attributeBase o "pop" X.env (eval o X.env) = eval o X.env:=by rfl) (hfew : vw X e [] cpos:=by rfl) (hline : (apos.endLine == cpos.line) = true:=by rfl) (hs : starEach [e] X.env = (false,eval e X.env) :: starEach [] X.env:=by rfl) :
    E en X (.Call (.Attribute o "pop" apos) [e] [] cpos) (iL "list" gJ la l):=uW PySem.F.plainAttrs_list PySem.F.slot_list_pop PySem.F.type_list_pop aes ho ha hbase hfew hline hs
end
theorem _root_.L2.Room.u9 {k : Nat} {A : Around} (r : Room k A) : A.units + 9 < cLine:=by have:=r.un; omega
theorem _root_.L2.Room.u64 {k : Nat} {A : Around} (r : Room k A) : A.units + 64 < cLine:=by have:=r.un; omega
theorem _root_.L2.Room.u65 {k : Nat} {A : Around} (r : Room k A) : A.units + 65 < cLine:=by have:=r.un; omega
section
variable {X : Cx} {a b c e o e1 : Expr} {es ifs : List Expr} {la lb lv lx : LE} {l lk : LA} {pos p p2 p3 p4 apos cpos spos py : Pos} {k n : Nat} {x m y : Str} {sp : aI} {dts : List T}
def oa (n1 n2 : String) (la : LE) : LE:=fun S G Φ => la S G fun t G1 => n1 ∈ cN /\ n2 ∈ cN /\ (match eD t G1 with
    | some m => Φ (.bl (aQ m n1 || aQ m n2)) G1
    | none => False)
theorem aez {K : Fr0} {m n1 n2 : String} (hm : m ∈ "NoneType" :: cN) (h1 : n1 ∈ cN) (h2 : n2 ∈ cN) : PySem.W.kitAny K (.type m) [.type n1,.type n2] = some (aQ m n1 || aQ m n2):=by
 refine kitAny_cons (kit_ty (pS hm h1)) (fun e => ?_) (fun e => by rw [e]; rfl)
 rw [e,Bool.false_or]
 exact kitAny_cons (kit_ty (pS hm h2)) (fun e => by rw [e]; rfl) (fun e => e)
theorem ady {n1 n2 : String} {x1 x2 : Str} {j : Nat} (hm : X.mg "isinstance" = none) (hm1 : X.mg x1 = none) (hm2 : X.mg x2 = none) (he : E en X e la) (hg : Gl X "isinstance":=by rfl) (hg1 : Gl X x1:=by rfl) (hg2 : Gl X x2:=by rfl)
 (hv1 : bootBuiltins x1 = some (.type n1):=by rfl) (hv2 : bootBuiltins x2 = some (.type n2):=by rfl) (hn1 : x1 ≠ "__name__":=by decide) (hd1 : (x1 == ("__debug__" : Str)) = false:=by decide) (hn2 : x2 ≠ "__name__":=by decide) (hd2 : (x2 == ("__debug__" : Str)) = false:=by decide)
 (hse : starEach [e,.Tuple [.Name x1 p1,.Name x2 p2] j p3] X.env = (false,eval e X.env) :: starEach [.Tuple [.Name x1 p1,.Name x2 p2] j p3] X.env:=by rfl) (hpl : (backTo pos (starEach [.Tuple [.Name x1 p1,.Name x2 p2] j p3] X.env)).any (·.1) = false:=by rfl) :
    E en X (.Call (.Name "isinstance" p) [e,.Tuple [.Name x1 p1,.Name x2 p2] j p3] [] pos) (oa n1 n2 la):=by
 refine PE.weak (pe_callB (r:=yx X.K) adC hg hm rfl (pa_cons he (pa_cons (pe_tup (pa_cons (pe_bltn (v:=.ty n1) hg1 hm1 hv1 rfl hn1 hd1) (pa_cons (pe_bltn (v:=.ty n2) hg2 hm2 hv2 rfl hn2 hd2) pa_nil))) pa_nil) hse) (he:=hse) (hpl:=hpl)) ?_
 intro σ H Q ⟨S,G,Φ,s,g,q,kk⟩
 refine ⟨S,G,_,s,g,q,fun t G1 v H1 q1 r1 g1 s1 => ?_⟩
 refine ⟨Nat.le_trans (show 2 <= 1000 by decide) (by rw [sizeLine_eq]; decide),fun q hq => ?_⟩
 obtain ⟨h1,h2,q1⟩:=q1
 split at q1
 . rename_i m e1
   obtain ⟨g2,s2,st2⟩:=g1.laid (ho:=.tup [.ty n1,.ty n2]) hq
   obtain ⟨y1,y2⟩:=vj g2 (r1.stay st2) e1
   exact ⟨v,q,[.ty n1,.ty n2],.type m,[.type n1,.type n2],_,rfl,upd_same,.cons (.ty n1) (.cons (.ty n2) .nil),y1,aez y2 h1 h2,kk _ _ _ _ q1 (.bl _) g2 (s1.trans s2)⟩
 . exact q1.elim
end
section
variable {P : Program} {w : World} {K : Fr0} {mg : Str -> Option Value} {base : Heap} {x qual m f0 : Str} {st : Stmt} {N ps : List Str} {k j : Nat} {sp : aI} {dts : List T} {C : Addr}
structure DfM (K : Fr0) (C : Addr) (m qual : Str) (st : Stmt) (ps : List Str) : Prop where
 ex : ∃ (f : Addr) (fd : FuncData),Fun K m qual st f fd /\ Meth K C m f /\ Binds K fd ps []
structure KnM (P : Program) (w : World) (K : Fr0) (mg : Str -> Option Value) (base : Heap) (k : Nat) (C : Addr) (m : Str) (sp : aI) (dts : List T) : Prop where
 ex : ∃ (f : Addr) (fd : FuncData) (ps : List Str) (dvs : List V) (ds : List Value),FnOk P w K mg base (L2.CX P w) k f fd ps (cZ K sp) /\ Cls K C /\ Meth K C m f /\ Binds K fd ps ds /\ Vals dvs ds /\ ∀ H,RelL K H dvs dts
theorem KnM.mono (F : KnM P w K mg base j C m sp dts) (h : j <= k) : KnM P w K mg base k C m sp dts:=by
 obtain ⟨f,fd,ps,dvs,ds,a,r⟩:=F.ex
 exact ⟨f,fd,ps,dvs,ds,a.mono h,r⟩
theorem KnM.imp {sp' : aI} (F : KnM P w K mg base k C m sp dts) (h : ∀ ts G Φ ΦE,sp' ts G Φ ΦE -> sp ts G Φ ΦE) : KnM P w K mg base k C m sp' dts:=by
 obtain ⟨f,fd,ps,dvs,ds,a,r⟩:=F.ex
 exact ⟨f,fd,ps,dvs,ds,FnOk.impT a h,r⟩
theorem vS (c : Cls K C) (D : DfM K C m qual st ps) (S : FnScope N ps (defScope st)) (len : ∀ ts G Φ ΦE,sp ts G Φ ΦE -> ts.length = ps.length) (hbody : ∀ f,BodyOk P w K mg base N qual (defScope st) f k (defBody st) sp) : KnM P w K mg base (k + 1) C m sp []:=by
 obtain ⟨f,fd,F,hm,hb⟩:=D.ex
 exact ⟨f,fd,ps,[],[],nh F S len (hbody f),c,hm,hb,.nil,fun H => .nil⟩
structure DfI (K : Fr0) (mg : Str -> Option Value) (x : Str) (C : Addr) (qual : Str) (st : Stmt) (ps : List Str) : Prop where
 ex : ∃ (f : Addr) (fd : FuncData),Fun K "__init__" qual st f fd /\ Mk K C f /\ mg x = some (.ref C) /\ Binds K fd ps []
structure KnI (P : Program) (w : World) (K : Fr0) (mg : Str -> Option Value) (base : Heap) (k : Nat) (x : Str) (C : Addr) (sp : aI) (dts : List T) : Prop where
 ex : ∃ (f : Addr) (fd : FuncData) (ps : List Str) (dvs : List V) (ds : List Value),FnOk P w K mg base (L2.CX P w) k f fd ps (cZ K sp) /\ Mk K C f /\ mg x = some (.ref C) /\ Binds K fd ps ds /\ Vals dvs ds /\ ∀ H,RelL K H dvs dts
theorem KnI.imp {sp' : aI} (F : KnI P w K mg base k x C sp dts) (h : ∀ ts G Φ ΦE,sp' ts G Φ ΦE -> sp ts G Φ ΦE) : KnI P w K mg base k x C sp' dts:=by
 obtain ⟨f,fd,ps,dvs,ds,a,r⟩:=F.ex
 exact ⟨f,fd,ps,dvs,ds,FnOk.impT a h,r⟩
theorem vF (D : DfI K mg x C qual st ps) (S : FnScope N ps (defScope st)) (len : ∀ ts G Φ ΦE,sp ts G Φ ΦE -> ts.length = ps.length) (hbody : ∀ f,BodyOk P w K mg base N qual (defScope st) f k (defBody st) sp) : KnI P w K mg base (k + 1) x C sp []:=by
 obtain ⟨f,fd,F,hm,hx,hb⟩:=D.ex
 exact ⟨f,fd,ps,[],[],nh F S len (hbody f),hm,hx,hb,.nil,fun H => .nil⟩
structure DfP (K : Fr0) (C : Addr) (m qual : Str) (st : Stmt) : Prop where
 ex : ∃ (p f : Addr) (fd : FuncData),Fun K m qual st f fd /\ PropOf K C m p f /\ Binds K fd ["self"] []
structure KnP (P : Program) (w : World) (K : Fr0) (mg : Str -> Option Value) (base : Heap) (k : Nat) (C : Addr) (m : Str) (sp : aI) : Prop where
 ex : ∃ (p f : Addr) (fd : FuncData),FnOk P w K mg base (L2.CX P w) k f fd ["self"] (cZ K sp) /\ Cls K C /\ PropOf K C m p f /\ Binds K fd ["self"] []
theorem KnP.imp {sp' : aI} (F : KnP P w K mg base k C m sp) (h : ∀ ts G Φ ΦE,sp' ts G Φ ΦE -> sp ts G Φ ΦE) : KnP P w K mg base k C m sp':=by
 obtain ⟨p,f,fd,a,r⟩:=F.ex
 exact ⟨p,f,fd,FnOk.impT a h,r⟩
theorem aaN (c : Cls K C) (D : DfP K C m qual st) (S : FnScope N ["self"] (defScope st)) (len : ∀ ts G Φ ΦE,sp ts G Φ ΦE -> ts.length = 1) (hbody : ∀ f,BodyOk P w K mg base N qual (defScope st) f k (defBody st) sp) : KnP P w K mg base (k + 1) C m sp:=by
 obtain ⟨p,f,fd,F,hp,hb⟩:=D.ex
 exact ⟨p,f,fd,nh F S len (hbody f),c,hp,hb⟩
end
section
variable {X : Cx} {a b c e o e1 : Expr} {es ifs : List Expr} {la lb lv lx : LE} {l lk : LA} {pos p p2 apos cpos spos py : Pos} {k n : Nat} {x m y : Str} {sp : aI} {dts : List T} {C : Addr}
theorem s8 {pl : Sem Bool} (F : KnM X.prog X.w X.K X.mg X.base k C m sp dts) (hr : Room k X.A) (he : E en X o la) (ha : Ea en X (e :: es) l)
 (hst : starEach (e :: es) X.env = (false,eval e X.env) :: starEach es X.env:=by rfl) (hpl : (backTo pos (starEach es X.env)).any (·.1) = false:=by rfl)
 (ht : eval (.Call (.Attribute o m apos) (e :: es) [] pos) X.env = (do
     let ov <- eval o X.env
     standAt apos.atName
     let (f,first) <- holding [ov] (getMethod ov m pl)
     callWith pos f first (backTo pos (starEach (e :: es) X.env)) (backToKw pos (keywordEach [] X.env))):=by rfl) :
    E en X (.Call (.Attribute o m apos) (e :: es) [] pos) (jH C m sp dts bH la l):=by
 obtain ⟨f,fd,ps,dvs,ds,a,c,hm,hb,hd,hdt⟩:=F.ex
 exact aad he c hm a hr hb hd hdt iO ha hst hpl ht
theorem mP (F : KnI X.prog X.w X.K X.mg X.base k x C sp dts) (hr : Room (k + 1) X.A) (ha : Ea en X (e :: es) l) (hg : Gl X x:=by rfl) (hdb : (x == ("__debug__" : Str)) = false:=by decide)
 (he : starEach (e :: es) X.env = (false,eval e X.env) :: starEach es X.env:=by rfl) (hpl : (backTo pos (starEach es X.env)).any (·.1) = false:=by rfl) : E en X (.Call (.Name x p) (e :: es) [] pos) (mn C sp dts bH l):=by
 obtain ⟨f,fd,ps,dvs,ds,a,M,hm,hb,hd,hdt⟩:=F.ex
 exact acl M a hr hg hm hb hd hdt iO ha hdb he hpl
def o4 (C : Addr) (sp : aI) (la : LE) : LE:=fun S G Φ => la S G fun t G1 => match t with
 | .ref a => (match G1 a with
  | some (.ins C' fs) => C' = C /\ sp [.ref a] G1 Φ bH
  | _ => False)
 | _ => False
theorem iQ (F : KnP X.prog X.w X.K X.mg X.base k C m sp) (hr : Room (k + 1) X.A) (he : E en X o la) (hab : attributeBase o m X.env (eval o X.env) = eval o X.env:=by rfl) : E en X (.Attribute o m pos) (o4 C sp la):=by
 obtain ⟨p,f,fd,a,c,hp,hb⟩:=F.ex
 refine PE.weak (pe_prop (dvs:=[]) (E:=eO X.K en bH) he c hp a hr hb .nil (iO (X:=X.nox)) hab) fun σ H Q ⟨S,G,Φ,s,g,q,kk⟩ => ?_
 refine ⟨S,G,_,s,g,q,fun t G1 v H1 q1 r1 g1 s1 => ?_⟩
 cases r1 with
 | ref a =>
  simp only at q1
  split at q1
  . rename_i C' fs e1
    obtain ⟨hC,q1⟩:=q1
    subst hC
    obtain ⟨dx,raw,h1,rf⟩:=g1.obj _ _ e1
    refine ⟨a,dx,raw,rfl,h1,?_⟩
    exact ⟨[.ref a],G1,Φ,bH,.cons (.ref a) .nil,g1.nil,q1,fun t G' v H' a b c d => kk t G' v H' a b (g1.back c d) (s1.trans d),fun C fs G' H' cls d a b c d' => a.elim⟩
  . exact q1.elim
 | _ => exact q1.elim
end
end Dv
namespace Dv
open PySem PySem.Spec PyProof.Rows L2
variable [Dv.Wld]
end Dv
noncomputable section
namespace Dv
open PySem PySem.Spec PyProof.Rows L2
variable [Dv.Wld]
mutual
def pd : T -> PyData
 | .non => .none
 | .bl b => .bool b
 | .int i => .int i
 | .str x => .str x
 | .tup ts => .tuple (cQ ts)
 | .ref _ => .none
 | .ty _ => .none
 | .ptup _ => .none
 | .exc _ _ _ => .none
 | .lam _ => .none
def cQ : List T -> List PyData
 | [] => []
 | t :: ts => pd t :: cQ ts
end
mutual
def nr : T -> Bool
 | .ref _ => false
 | .ptup _ => false
 | .exc _ _ _ => false
 | .lam _ => false
 | .ty _ => false
 | .tup ts => dQ ts
 | .str x => PyData.strOk x
 | .non => true
 | .bl _ => true
 | .int _ => true
def dQ : List T -> Bool
 | [] => true
 | t :: ts => nr t && dQ ts
end
mutual
def dg : T -> T -> Bool
 | .tup xs,u => fZ xs u
 | .bl _,.int _ => false
 | .int _,.bl _ => false
 | _,_ => true
def fZ : List T -> T -> Bool
 | [],_ => true
 | x :: xs,.tup (y :: ys) => dg x y && fZ xs (.tup ys)
 | _,_ => true
end
mutual
def nb : T -> Bool
 | .bl _ => false
 | .tup ts => bX ts
 | _ => true
def bX : List T -> Bool
 | [] => true
 | t :: ts => nb t && bX ts
end
mutual
def jR : T -> Nat
 | .tup ts => gu ts + 1
 | _ => 0
def gu : List T -> Nat
 | [] => 0
 | t :: ts => max (jR t) (gu ts)
end
mutual
theorem aca {G : Gp} : ∀ t : T,nr t = true -> Dat G t (pd t) /\ (pd t).canLay0 = true /\ (pd t).depth = jR t
 | .non,_ => ⟨.non,rfl,rfl⟩
 | .bl b,_ => ⟨.bl b,rfl,rfl⟩
 | .int i,_ => ⟨.int i,rfl,rfl⟩
 | .str x,h => ⟨.str x,by simpa [pd,PyData.canLay0,nr] using h,rfl⟩
 | .tup ts,h => by
  obtain ⟨h1,h2,h3⟩:=oZ (G:=G) ts (by simpa [nr] using h)
  refine ⟨.tup h1,by simpa [pd,PyData.canLay0] using h2,?_⟩
  simp [pd,PyData.depth,jR,h3]
 | .ref _,h => by simp [nr] at h
 | .ty _,h => by simp [nr] at h
 | .ptup _,h => by simp [nr] at h
 | .exc _ _ _,h => by simp [nr] at h
 | .lam _,h => by simp [nr] at h
theorem oZ {G : Gp} : ∀ ts : List T,dQ ts = true -> DatL G ts (cQ ts) /\ PyData.canLayAll0 (cQ ts) = true /\ PyData.depthAll (cQ ts) = gu ts
 | [],_ => ⟨.nil,by simp [cQ,PyData.canLayAll0],by simp [cQ,PyData.depthAll,gu]⟩
 | t :: ts,h => by
  have h' : nr t = true /\ dQ ts = true:=by simpa [dQ] using h
  obtain ⟨a1,a2,a3⟩:=aca (G:=G) t h'.1
  obtain ⟨b1,b2,b3⟩:=oZ (G:=G) ts h'.2
  exact ⟨.cons a1 b1,by simp [cQ,PyData.canLayAll0,a2,b2],by simp [cQ,PyData.depthAll,gu,a3,b3]⟩
end
theorem beq_dec {α : Type} [BEq α] [LawfulBEq α] [DecidableEq α] (a b : α) : (a == b) = decide (a = b):=by
 by_cases h : a = b
 . subst h; simp
 . rw [beq_eq_false_iff_ne.mpr h,decide_eq_false h]
mutual
theorem aeW : ∀ (t u : T),nr t = true -> nr u = true -> dg t u = true -> PyData.eqv (pd t) (pd u) = decide (t = u)
 | .non,u,_,h,_ => by cases u <;> simp_all [pd,PyData.eqv,nr]
 | .bl b,u,_,h,c => by cases u <;> simp_all [pd,PyData.eqv,nr,dg]; exact beq_dec _ _
 | .int b,u,_,h,c => by cases u <;> simp_all [pd,PyData.eqv,nr,dg]; exact beq_dec _ _
 | .str b,u,_,h,c => by cases u <;> simp_all [pd,PyData.eqv,nr,dg]; exact beq_dec _ _
 | .ref _,u,h,_,_ => by simp [nr] at h
 | .ty _,u,h,_,_ => by simp [nr] at h
 | .ptup _,u,h,_,_ => by simp [nr] at h
 | .exc _ _ _,u,h,_,_ => by simp [nr] at h
 | .lam _,u,h,_,_ => by simp [nr] at h
 | .tup xs,u,h,h2,c => by
  cases u with
  | tup ys =>
   simp only [pd,PyData.eqv,T.tup.injEq]
   exact qL xs ys (by simpa [nr] using h) (by simpa [nr] using h2) (by simpa [dg] using c)
  | _ => simp_all [pd,PyData.eqv,nr]
theorem qL : ∀ (xs ys : List T),dQ xs = true -> dQ ys = true -> fZ xs (.tup ys) = true -> PyData.eqvAll (cQ xs) (cQ ys) = decide (xs = ys)
 | [],[],_,_,_ => by simp [cQ,PyData.eqvAll]
 | [],_ :: _,_,_,_ => by simp [cQ,PyData.eqvAll]
 | _ :: _,[],_,_,_ => by simp [cQ,PyData.eqvAll]
 | x :: xs,y :: ys,h,h2,c => by
  have h' : nr x = true /\ dQ xs = true:=by simpa [dQ] using h
  have h2' : nr y = true /\ dQ ys = true:=by simpa [dQ] using h2
  have c' : dg x y = true /\ fZ xs (.tup ys) = true:=by simpa [fZ] using c
  simp only [cQ,PyData.eqvAll,aeW x y h'.1 h2'.1 c'.1,qL xs ys h'.2 h2'.2 c'.2,List.cons.injEq,Bool.decide_and]
end
mutual
theorem abj : ∀ t u : T,nb t = true -> nb u = true -> dg t u = true
 | .tup xs,u,h,h2 => by simpa [dg] using qd xs u (by simpa [nb] using h) h2
 | .bl _,u,h,_ => by simp [nb] at h
 | .int _,u,_,h2 => by cases u <;> simp_all [dg,nb]
 | .non,u,_,_ => by simp [dg]
 | .str _,u,_,_ => by simp [dg]
 | .ref _,u,_,_ => by simp [dg]
 | .ty _,u,_,_ => by simp [dg]
 | .ptup _,u,_,_ => by simp [dg]
 | .exc _ _ _,u,_,_ => by simp [dg]
 | .lam _,u,_,_ => by simp [dg]
theorem qd : ∀ (xs : List T) (u : T),bX xs = true -> nb u = true -> fZ xs u = true
 | [],u,_,_ => by simp [fZ]
 | x :: xs,u,h,h2 => by
  have h' : nb x = true /\ bX xs = true:=by simpa [bX] using h
  cases u with
  | tup ys =>
   cases ys with
   | nil => simp [fZ]
   | cons y ys =>
    have h2' : nb y = true /\ bX ys = true:=by simpa [nb,bX] using h2
    simp [fZ,abj x y h'.1 h2'.1,qd xs (.tup ys) h'.2 (by simpa [nb] using h2'.2)]
  | _ => simp [fZ]
end
theorem zf : ∀ {ts : List T},dQ ts = true ↔ ∀ t ∈ ts,nr t = true
 | [] => by simp [dQ]
 | t :: ts => by simp [dQ,zf (ts:=ts)]
theorem lf : ∀ {ts : List T},bX ts = true ↔ ∀ t ∈ ts,nb t = true
 | [] => by simp [bX]
 | t :: ts => by simp [bX,lf (ts:=ts)]
theorem vV : ∀ {ts : List T} {n : Nat},(∀ t ∈ ts,jR t <= n) -> gu ts <= n
 | [],_,_ => by simp [gu]
 | t :: ts,n,h => by
  have h1:=h t (by simp)
  have h2:=vV (ts:=ts) (n:=n) fun u hu => h u (by simp [hu])
  simp [gu]; omega
def qS (t : T) : Prop:=nr t = true /\ nb t = true /\ jR t <= 60
def cJ (ts : List T) : Prop:=∀ t ∈ ts,qS t
theorem cJ.nil : cJ []:=fun t h => by cases h
theorem cJ.cons {t : T} {ts : List T} (h : qS t) (r : cJ ts) : cJ (t :: ts):=fun u hu => by
 rcases List.mem_cons.mp hu with e | hu
 . rw [e]; exact h
 . exact r u hu
theorem cJ.app {ts us : List T} (h : cJ ts) (r : cJ us) : cJ (ts ++ us):=fun u hu => (List.mem_append.mp hu).elim (h u) (r u)
theorem aeV {i : Int} : qS (.int i):=⟨by simp [nr],by simp [nb],by simp [jR]⟩
theorem cJ.ints (is : List Int) : cJ (is.map T.int):=fun t h => by
 obtain ⟨i,_,rfl⟩:=List.mem_map.mp h
 exact aeV
theorem hV {d : PyData} (h : d.canLay0 = true) (h2 : d.depth <= 64) : SeqAt.shaped d = true:=by
 unfold SeqAt.shaped
 rw [h]
 exact decide_eq_true h2
theorem cJ.facts {ts : List T} (h : cJ ts) : dQ ts = true /\ bX ts = true /\ gu ts <= 60:=⟨zf.mpr fun t ht => (h t ht).1,lf.mpr fun t ht => (h t ht).2.1,vV fun t ht => (h t ht).2.2⟩
theorem abt {neg : Bool} {G : Gp} {a b : Addr} {xs ys : List T} {Φ : QT} (ha : G a = some (.lst xs)) (hb : G b = some (.lst ys)) (px : cJ xs) (py : cJ ys) (h : Φ (.bl (if neg then !decide (xs = ys) else decide (xs = ys))) G) : n5 neg (.ref a) (.ref b) G Φ:=by
 obtain ⟨x1,x2,x3⟩:=px.facts
 obtain ⟨y1,y2,y3⟩:=py.facts
 obtain ⟨dx,cx,ex⟩:=oZ (G:=G) xs x1
 obtain ⟨dy,cy,ey⟩:=oZ (G:=G) ys y1
 refine ⟨.list (cQ xs),.list (cQ ys),.lst ha dx,.lst hb dy,hV (by simpa [PyData.canLay0] using cx) (by simp only [PyData.depth,ex]; omega),hV (by simpa [PyData.canLay0] using cy) (by simp only [PyData.depth,ey]; omega),?_⟩
 have e : PyData.eqv (.list (cQ xs)) (.list (cQ ys)) = decide (xs = ys):=by
  simp only [PyData.eqv]
  exact qL xs ys x1 y1 (qd xs (.tup ys) x2 (by simpa [nb] using y2))
 rw [e]
 exact h
theorem zi {G : Gp} {a b : Addr} {xs ys : List T} {Φ : QT} (ha : G a = some (.lst xs)) (hb : G b = some (.lst ys)) (px : cJ xs) (py : cJ ys) (h : Φ (.bl (!decide (xs = ys))) G) : neT (.ref a) (.ref b) G Φ:=by
 unfold neT
 rw [if_neg (by simp [dq])]
 exact abt ha hb px py h
end Dv
noncomputable section
namespace Dv
open PySem PySem.Spec PyProof.Rows L2
variable [Dv.Wld]
def bO (lg it : Addr) (l t : Int) : List (T × T):=[(.str "large",.ref lg),(.str "items",.ref it),(.str "left",.int l),(.str "turn",.int t)]
theorem zp {lg it : Addr} {l t : Int} : aP (bO lg it l t) (.str "large") = some (.ref lg):=by
 unfold bO aP; rw [if_pos rfl]
theorem ux {lg it : Addr} {l t : Int} : aP (bO lg it l t) (.str "items") = some (.ref it):=by
 simp [bO,aP,show ("large" : Str) ≠ "items" by decide]
theorem mZ {lg it : Addr} {l t : Int} : aP (bO lg it l t) (.str "left") = some (.int l):=by
 simp [bO,aP,show ("large" : Str) ≠ "left" by decide,show ("items" : Str) ≠ "left" by decide]
theorem adN {lg it : Addr} {l t : Int} : aP (bO lg it l t) (.str "turn") = some (.int t):=by
 simp [bO,aP,show ("large" : Str) ≠ "turn" by decide,show ("items" : Str) ≠ "turn" by decide,show ("left" : Str) ≠ "turn" by decide]
theorem zq {lg it : Addr} {l t l' : Int} : dput (bO lg it l t) (.str "left") (.int l') = bO lg it l' t:=by
 simp [bO,dput,show ("large" : Str) ≠ "left" by decide,show ("items" : Str) ≠ "left" by decide,show ("turn" : Str) ≠ "left" by decide]
theorem afd {lg it : Addr} {l t t' : Int} : dput (bO lg it l t) (.str "turn") (.int t') = bO lg it l t':=by
 simp [bO,dput,show ("large" : Str) ≠ "turn" by decide,show ("items" : Str) ≠ "turn" by decide,show ("left" : Str) ≠ "turn" by decide]
theorem qm {lg it : Addr} {l t : Int} : (bO lg it l t).length < sizeLine:=by rw [sizeLine_eq]; show 4 < _; decide
def aR (G : Gp) (d lg it : Addr) (l t : Int) (ls is : List Int) : Gp:=gup (gup (gup G d (.dic (bO lg it l t))) lg (.lst (ls.map T.int))) it (.lst (is.map T.int))
structure Opn (d lg it : Addr) (l t : Int) (ls is : List Int) (n : Nat) : Prop where
 n1 : d ≠ lg
 n2 : d ≠ it
 n3 : lg ≠ it
 lpos : ∀ x ∈ ls,0 <= x
 ipos : ∀ x ∈ is,0 <= x
 ilen : is.length <= 63
 llen : ls.length <= 63
 l0 : 0 <= l
 t0 : 0 <= t
 tn : t <= n
section
variable {K : Fr0} {en : En} {H : Hp} {G : Gp} {d lg it : Addr} {l t : Int} {ls is : List Int} {n : Nat}
theorem cU (o : Opn d lg it l t ls is n) : aR G d lg it l t ls is d = some (.dic (bO lg it l t)):=by
 unfold aR; rw [ao o.n2,ao o.n1,aH]
theorem gn (o : Opn d lg it l t ls is n) : aR G d lg it l t ls is lg = some (.lst (ls.map T.int)):=by
 unfold aR; rw [ao o.n3,aH]
theorem gF : aR G d lg it l t ls is it = some (.lst (is.map T.int)):=by
 unfold aR; rw [aH]
theorem rJ (o : Opn d lg it l t ls is n) {l' t' : Int} : gup (aR G d lg it l t ls is) d (.dic (bO lg it l' t')) = aR G d lg it l' t' ls is:=by
 unfold aR
 rw [kG o.n2.symm,kG o.n1.symm,xF]
theorem aae (o : Opn d lg it l t ls is n) {ls' : List Int} : gup (aR G d lg it l t ls is) lg (.lst (ls'.map T.int)) = aR G d lg it l t ls' is:=by
 unfold aR
 rw [kG o.n3.symm,xF]
theorem iK {b : Addr} (h1 : b ≠ d) (h2 : b ≠ lg) (h3 : b ≠ it) : aR G d lg it l t ls is b = G b:=by
 unfold aR; rw [ao h3,ao h2,ao h1]
theorem adR (n1 : d ≠ lg) (n2 : d ≠ it) (n3 : lg ≠ it) : gup (gup (gup G it (.lst (is.map T.int))) lg (.lst (ls.map T.int))) d (.dic (bO lg it l t)) = aR G d lg it l t ls is:=by
 unfold aR
 rw [kG n1.symm,kG (a:=it) (b:=d) n2.symm,kG n3.symm]
theorem qM : ∀ xs : List Int,RelL K H (xs.map V.int) (xs.map T.int)
 | [] => .nil
 | x :: xs => .cons (.int x) (qM xs)
theorem uF : ∀ {xs : List Int} {vs : List V},RelL K H vs (xs.map T.int) -> vs = xs.map V.int
 | [],_,.nil => rfl
 | x :: xs,_,.cons h r => by cases h; rw [uF r]; rfl
theorem adE : RelD K H (jy lg it l t) (bO lg it l t) :=
 .cons (k:=.inr "large") (.ref lg) (.cons (k:=.inr "items") (.ref it) (.cons (k:=.inr "left") (.int l) (.cons (k:=.inr "turn") (.int t) .nil)))
theorem abJ {vs : List (Key × V)} (h : RelD K H vs (bO lg it l t)) : vs = jy lg it l t:=by
 have key : ∀ {k : Key} {s : Str},kT k = .str s -> k = .inr s:=by
  intro k s e
  cases k <;> simp [kT] at e
  rw [e]
 unfold bO at h
 generalize e1 : T.str "large" = k1 at h
 generalize e2 : T.str "items" = k2 at h
 generalize e3 : T.str "left" = k3 at h
 generalize e4 : T.str "turn" = k4 at h
 cases h with
 | cons a h =>
  cases h with
  | cons b h =>
   cases h with
   | cons c h =>
    cases h with
    | cons f h =>
     cases h
     cases a; cases b; cases c; cases f
     rw [key e1.symm,key e2.symm,key e3.symm,key e4.symm]
     rfl
theorem adm (g : HRel K en H G) (e : G d = some (.drw n)) : ∃ lg it l t ls is,Opn d lg it l t ls is n /\ G lg = none /\ G it = none /\ HRel K [] H (aR G d lg it l t ls is) /\ (∀ b,Own H (aR G d lg it l t ls is) b ↔ Own H G b):=by
 obtain ⟨lg,it,l,t,ls,is,r⟩:=g.obj d _ e
 have n1 : d ≠ lg:=fun z => by have h:=r.hd; rw [z,r.hlg] at h; cases h
 have n2 : d ≠ it:=fun z => by have h:=r.hd; rw [z,r.hit] at h; cases h
 have o : Opn d lg it l t ls is n:=⟨n1,n2,r.ne,r.lpos,r.ipos,r.ilen,r.llen,r.l0,r.t0,r.tn⟩
 have hidl : Hid H d lg:=⟨lg,it,l,t,r.hd,.inl rfl⟩
 have hidi : Hid H d it:=⟨lg,it,l,t,r.hd,.inr rfl⟩
 have hid : ∀ b,Hid H d b -> b = lg \/ b = it:=by
  rintro b ⟨lg',it',l',t',h,hb⟩
  rw [r.hd] at h
  obtain ⟨e1,e2,_,_⟩:=tF (HO.dK.inj (Option.some.inj h))
  subst e1 e2
  exact hb
 have nodrw : ∀ d' n',aR G d lg it l t ls is d' ≠ some (.drw n'):=by
  intro d' n' z
  by_cases h1 : d' = d
  . subst h1; rw [cU o] at z; cases z
  by_cases h2 : d' = lg
  . subst h2; rw [gn o] at z; cases z
  by_cases h3 : d' = it
  . subst h3; rw [gF] at z; cases z
  rw [iK h1 h2 h3] at z
  exact h1 (g.one _ _ _ _ z e)
 refine ⟨lg,it,l,t,ls,is,o,g.sep _ _ _ e hidl,g.sep _ _ _ e hidi,⟨fun b u eb => ?_,fun d' n' b z => absurd z (nodrw _ _),fun d' _ n' _ z => absurd z (nodrw _ _),(fun e he => by cases he),g.tabs⟩,fun b => ?_⟩
 . by_cases h1 : b = d
   . subst h1
     rw [cU o] at eb
     cases eb
     exact ⟨_,r.hd,adE⟩
   by_cases h2 : b = lg
   . subst h2
     rw [gn o] at eb
     cases eb
     exact ⟨_,r.hlg,qM _⟩
   by_cases h3 : b = it
   . subst h3
     rw [gF] at eb
     cases eb
     exact ⟨_,r.hit,qM _⟩
   rw [iK h1 h2 h3] at eb
   exact g.obj b u eb
 . constructor
   . rintro (⟨u,z⟩ | ⟨d',n',z,_⟩)
     . by_cases h1 : b = d
       . subst h1; exact .inl ⟨_,e⟩
       by_cases h2 : b = lg
       . subst h2; exact .inr ⟨d,n,e,hidl⟩
       by_cases h3 : b = it
       . subst h3; exact .inr ⟨d,n,e,hidi⟩
       rw [iK h1 h2 h3] at z
       exact .inl ⟨u,z⟩
     . exact absurd z (nodrw _ _)
   . rintro (⟨u,z⟩ | ⟨d',n',z,h⟩)
     . by_cases h1 : b = d
       . subst h1; exact .inl ⟨_,cU o⟩
       by_cases h2 : b = lg
       . subst h2; exact .inl ⟨_,gn o⟩
       by_cases h3 : b = it
       . subst h3; exact .inl ⟨_,gF⟩
       exact .inl ⟨u,by rw [iK h1 h2 h3]; exact z⟩
     . have e':=g.one _ _ _ _ z e
       subst e'
       rcases hid b h with rfl | rfl
       . exact .inl ⟨_,gn o⟩
       . exact .inl ⟨_,gF⟩
theorem yV (h1 : ∀ d' n',G d' = some (.drw n') -> d' = d) (hl : G lg = none) (hi : G it = none) (o : Opn d lg it l t ls is n) (g : HRel K [] H (aR G d lg it l t ls is)) :
    HRel K [] H (gup G d (.drw n)) /\ ∀ b,Own H (gup G d (.drw n)) b ↔ Own H (aR G d lg it l t ls is) b:=by
 obtain ⟨vd,hd,rd⟩:=g.obj d _ (cU o)
 obtain ⟨vl,hlg,rl⟩:=g.obj lg _ (gn o)
 obtain ⟨vi,hit,ri⟩:=g.obj it _ gF
 have e1:=abJ rd
 have e2:=uF rl
 have e3:=uF ri
 subst e1 e2 e3
 have r : DrawR H d n lg it l t ls is:=⟨hd,hlg,hit,o.n3,o.lpos,o.ipos,o.ilen,o.llen,o.l0,o.t0,o.tn⟩
 have hid : ∀ b,Hid H d b -> b = lg \/ b = it:=by
  rintro b ⟨lg',it',l',t',h,hb⟩
  rw [hd] at h
  obtain ⟨e1,e2,_,_⟩:=tF (HO.dK.inj (Option.some.inj h))
  subst e1 e2
  exact hb
 have isd : ∀ d' n',gup G d (.drw n) d' = some (.drw n') -> d' = d:=by
  intro d' n' z
  by_cases h : d' = d
  . exact h
  . rw [ao h] at z
    exact h1 d' n' z
 have nod : ∀ d' n',aR G d lg it l t ls is d' ≠ some (.drw n'):=by
  intro d' n' z
  by_cases h1' : d' = d
  . subst h1'; rw [cU o] at z; cases z
  by_cases h2 : d' = lg
  . subst h2; rw [gn o] at z; cases z
  by_cases h3 : d' = it
  . subst h3; rw [gF] at z; cases z
  rw [iK h1' h2 h3] at z
  exact h1' (h1 _ _ z)
 refine ⟨⟨fun b u eb => ?_,fun d' n' b z hb => ?_,fun d' d2 n' n2 z z2 => (isd _ _ z).trans (isd _ _ z2).symm,(fun e he => by cases he),g.tabs⟩,fun b => ?_⟩
 . by_cases hb : b = d
   . subst hb
     rw [aH] at eb
     cases eb
     exact ⟨lg,it,l,t,ls,is,r⟩
   . rw [ao hb] at eb
     by_cases h2 : b = lg
     . subst h2; rw [hl] at eb; cases eb
     by_cases h3 : b = it
     . subst h3; rw [hi] at eb; cases eb
     exact g.obj b u (by rw [iK hb h2 h3]; exact eb)
 . have e':=isd _ _ z
   subst e'
   rcases hid b hb with rfl | rfl
   . rw [ao o.n1.symm]; exact hl
   . rw [ao o.n2.symm]; exact hi
 . constructor
   . rintro (⟨u,z⟩ | ⟨d',n',z,h⟩)
     . by_cases hb : b = d
       . subst hb; exact .inl ⟨_,cU o⟩
       . rw [ao hb] at z
         by_cases h2 : b = lg
         . subst h2; rw [hl] at z; cases z
         by_cases h3 : b = it
         . subst h3; rw [hi] at z; cases z
         exact .inl ⟨u,by rw [iK hb h2 h3]; exact z⟩
     . have e':=isd _ _ z
       subst e'
       rcases hid b h with rfl | rfl
       . exact .inl ⟨_,gn o⟩
       . exact .inl ⟨_,gF⟩
   . rintro (⟨u,z⟩ | ⟨d',n',z,_⟩)
     . by_cases hb : b = d
       . subst hb; exact .inl ⟨_,aH⟩
       by_cases h2 : b = lg
       . subst h2; exact .inr ⟨d,n,aH,⟨b,it,l,t,hd,.inl rfl⟩⟩
       by_cases h3 : b = it
       . subst h3; exact .inr ⟨d,n,aH,⟨lg,b,l,t,hd,.inr rfl⟩⟩
       rw [iK hb h2 h3] at z
       exact .inl ⟨u,by rw [ao hb]; exact z⟩
     . exact absurd z (nod _ _)
end
def dw : Nat:=10 ^ 9
def oG : aI:=fun ts G Φ _ => ∃ d sz n,ts = [.ref d,.int sz] /\ G d = some (.drw n) /\ (0 < sz /\ sz < 2 ^ 30) /\ n < dw /\ ∀ r,0 <= r -> r < sz -> Φ (.int r) (gup G d (.drw (n + 1)))
def qF : aI:=fun ts G Φ _ => ∃ d sz n G0 lg it l t ls is,ts = [.ref d,.int sz] /\ G = aR G0 d lg it l t ls is /\ Opn d lg it l t ls is n /\ (0 < sz /\ sz < 2 ^ 30) /\ n < dw /\
 ∀ r l' t' ls',0 <= r -> r < sz -> Opn d lg it l' t' ls' is (n + 1) -> Φ (.int r) (aR G0 d lg it l' t' ls' is)
theorem aeY {K : Fr0} : ∀ vs H Q E,cZ K oG vs H Q E -> cZ K qF vs H Q E:=by
 rintro vs H Q E ⟨ts,G,Φ,ΦE,r,g,⟨d,sz,n,rfl,e,hsz,hn,q⟩,k1,k2⟩
 obtain ⟨lg,it,l,t,ls,is,o,hl,hi,g1,own⟩:=adm g e
 refine ⟨_,aR G d lg it l t ls is,fun u G' => ∃ r l' t' ls',u = .int r /\ 0 <= r /\ r < sz /\ Opn d lg it l' t' ls' is (n + 1) /\ G' = aR G d lg it l' t' ls' is,fun _ _ _ => False,r,g1,
  ⟨d,sz,n,G,lg,it,l,t,ls,is,rfl,rfl,o,hsz,hn,fun r l' t' ls' h1 h2 o' => ⟨r,l',t',ls',rfl,h1,h2,o',rfl⟩⟩,?_,fun _ _ _ _ _ _ z => z.elim⟩
 rintro u G' v H' ⟨r,l',t',ls',rfl,h1,h2,o',rfl⟩ rv g' s'
 obtain ⟨g2,own2⟩:=yV (fun d' n' z => g.one _ _ _ _ z e) hl hi o' g'
 refine k1 _ _ v H' (q r h1 h2) rv g2 ⟨fun a u ea ya na => ?_,s'.al⟩
 obtain ⟨z1,z2⟩:=s'.fr a u ea ya (fun z => na ((own a).mp z))
 exact ⟨z1,fun z => z2 ((own2 a).mp z)⟩
theorem adb {P : Program} {w : World} {K : Fr0} {mg : Str -> Option Value} {base : Heap} {k : Nat} {x : Str} (F : Kn P w K mg base k x qF []) : Kn P w K mg base k x oG []:=by
 obtain ⟨f,fd,ps,dvs,ds,a,r⟩:=F.ex
 exact ⟨f,fd,ps,dvs,ds,a.imp aeY,r⟩
end Dv
noncomputable section
namespace Dv
open PySem PySem.Spec L2
variable [Dv.Wld]
section
variable {a b : LS} {L : LEnds} {S : S2} {G : Gp}
theorem sq {M : S2 -> Gp -> Prop} (k : ∀ S' G',M S' G' -> b L S' G') (h : ∀ R : S2 -> Gp -> Prop,(∀ S' G' G0,Sub G0 G' -> M S' G0 -> R S' G') -> a ⟨R,L.rt,L.bk,L.ct⟩ S G) : iW a b L S G :=
 h _ fun S' G' G0 sb m => ⟨G0,sb,k S' G0 m⟩
theorem mV {S1 : S2} {G1 : Gp} (h : ∀ R : S2 -> Gp -> Prop,(∀ G',Sub G1 G' -> R S1 G') -> a ⟨R,L.rt,L.bk,L.ct⟩ S G) (k : b L S1 G1) : iW a b L S G :=
 sq (M:=fun S' G' => S' = S1 /\ G' = G1) (fun S' G' ⟨e1,e2⟩ => by rw [e1,e2]; exact k) fun R hR => h R fun G' sb => hR S1 G' G1 sb ⟨rfl,rfl⟩
theorem w6 {f : T -> S2 -> Option S2} {b : LS} {Keep : Gp -> Prop} (I : List T -> S2 -> Gp -> Prop) (h0 : ∀ S G,I [] S G -> Keep G /\ L.nx S G)
 (h1 : ∀ t r S G,I (t :: r) S G -> Keep G /\ ∃ S',f t S = some S' /\ ∀ R : S2 -> Gp -> Prop,(∀ S1 G1 G0,Sub G0 G1 -> I r S1 G0 -> R S1 G1) -> b ⟨R,L.rt,L.nx,R⟩ S' G) :
 ∀ items S G,I items S G -> fA L f b Keep items S G
 | [],S,G,i => h0 S G i
 | t :: r,S,G,i => by
  obtain ⟨kp,S',e,h⟩:=h1 t r S G i
  refine ⟨kp,?_⟩
  rw [e]
  exact h (fun S1 G1 => ∃ G0,Sub G0 G1 /\ fA L f b Keep r S1 G0) fun S1 G1 G0 sb i' => ⟨G0,sb,w6 I h0 h1 r S1 G0 i'⟩
theorem uq {Keep : Gp -> Prop} {f : T -> S2 -> Option S2} {vs : List Nat} {tt : LT} {te : LE} {Fin : List T -> Gp -> Prop} {S : S2} (I : List T -> List T -> Gp -> Prop) (h0 : ∀ acc G,I [] acc G -> Keep G /\ Fin acc G)
 (h1 : ∀ t r acc G,I (t :: r) acc G -> Keep G /\ ∃ S2,f t (bY S vs) = some S2 /\ ∀ R : List T -> Gp -> Prop,(∀ acc G1 G0,Sub G0 G1 -> I r acc G0 -> R acc G1) ->
     tt S2 G fun b G1 => if b = true then te S2 G1 fun y G2 => acc.length < sizeLine /\ R (acc ++ [y]) G2 else R acc G1) : ∀ items acc G,I items acc G -> fj Keep f vs tt te Fin S items acc G
 | [],acc,G,i => h0 acc G i
 | t :: r,acc,G,i => by
  obtain ⟨kp,S2,e,h⟩:=h1 t r acc G i
  refine ⟨kp,?_⟩
  rw [e]
  exact h (fun acc G1 => ∃ G0,Sub G0 G1 /\ fj Keep f vs tt te Fin S r acc G0) fun acc G1 G0 sb i' => ⟨G0,sb,uq I h0 h1 r acc G0 i'⟩
theorem yz {Keep : Gp -> Prop} {f : T -> S2 -> Option S2} {vs : List Nat} {tt : LT} {tk tv : LE} {Fin : List (T × T) -> Gp -> Prop} {S : S2} (I : List T -> List (T × T) -> Gp -> Prop) (h0 : ∀ acc G,I [] acc G -> Keep G /\ Fin acc G)
 (h1 : ∀ t r acc G,I (t :: r) acc G -> Keep G /\ ∃ S2,f t (bY S vs) = some S2 /\ ∀ R : List (T × T) -> Gp -> Prop,(∀ acc G1 G0,Sub G0 G1 -> I r acc G0 -> R acc G1) ->
     tt S2 G fun b G1 => if b = true then tk S2 G1 fun y G2 => tv S2 G2 fun z G3 => acc.length < sizeLine /\ (bK y).isSome = true /\ R (dput acc y z) G3 else R acc G1) : ∀ items acc G,I items acc G -> fO Keep f vs tt tk tv Fin S items acc G
 | [],acc,G,i => h0 acc G i
 | t :: r,acc,G,i => by
  obtain ⟨kp,S2,e,h⟩:=h1 t r acc G i
  refine ⟨kp,?_⟩
  rw [e]
  exact h (fun acc G1 => ∃ G0,Sub G0 G1 /\ fO Keep f vs tt tk tv Fin S r acc G0) fun acc G1 G0 sb i' => ⟨G0,sb,yz I h0 h1 r acc G0 i'⟩
theorem w7 {Keep : Gp -> Prop} {f : T -> S2 -> Option S2} {vs : List Nat} {tt : LT} {te : LE} {Fin : List T -> Gp -> Prop} {S : S2} {G : Gp} (p : T -> Bool) (g : T -> T) {items : List T} (hK : Keep G) (hl : items.length <= sizeLine)
 (h : ∀ t ∈ items,∃ S2,f t (bY S vs) = some S2 /\ (∀ Φ : Bool -> Gp -> Prop,(∀ G',Sub G G' -> Φ (p t) G') -> tt S2 G Φ) /\ (p t = true -> ∀ G',Sub G G' -> ∀ Φ : QT,(∀ G'',Sub G' G'' -> Φ (g t) G'') -> te S2 G' Φ))
 (k : Fin ((items.filter p).map g) G) : fj Keep f vs tt te Fin S items [] G:=by
 refine uq (I:=fun r acc G' => G' = G /\ ∃ q,items = q ++ r /\ acc = (q.filter p).map g) (fun acc G' ⟨e,q,h1,h2⟩ => ?_) (fun t r acc G' ⟨e,q,h1,h2⟩ => ?_) items [] G ⟨rfl,[],rfl,rfl⟩
 . subst e
   rw [List.append_nil] at h1
   subst h1 h2
   exact ⟨hK,k⟩
 . subst e
   obtain ⟨S2,e1,e2,e3⟩:=h t (by rw [h1]; simp)
   refine ⟨hK,S2,e1,fun R hR => e2 _ fun G1 sb => ?_⟩
   have hlen : acc.length < sizeLine:=by
    rw [h2,List.length_map]
    have:=List.length_filter_le p q
    rw [h1,List.length_append,List.length_cons] at hl
    omega
   cases hp : p t with
   | true =>
    simp only [if_true]
    refine e3 hp G1 sb _ fun G2 sb2 => ⟨hlen,hR _ _ G' (sb.trans sb2) ⟨rfl,q ++ [t],by rw [h1]; simp,by rw [h2]; simp [hp]⟩⟩
   | false =>
    simp only [Bool.false_eq_true,if_false]
    exact hR _ _ G' sb ⟨rfl,q ++ [t],by rw [h1]; simp,by rw [h2]; simp [hp]⟩
end
theorem aej {α : Type} (xs : List α) (k : Nat) : cut xs (some (k : Int)) none = xs.drop k:=by
 unfold cut
 rw [HT.sIx_nat,HT.sIx_none]
 by_cases h : k <= xs.length
 . rw [Nat.min_eq_left h,List.take_of_length_le (by rw [List.length_drop]; omega)]
 . rw [Nat.min_eq_right (by omega),List.drop_of_length_le (Nat.le_refl _),List.drop_of_length_le (by omega)]
   simp
theorem v9 {α : Type} (xs : List α) (k : Nat) : cut xs none (some (k : Int)) = xs.take k:=by
 unfold cut
 rw [HT.sIx_nat,HT.sIx_none]
 simp only [List.drop_zero,Nat.sub_zero]
 by_cases h : k <= xs.length
 . rw [Nat.min_eq_left h]
 . rw [Nat.min_eq_right (by omega),List.take_of_length_le (Nat.le_refl _),List.take_of_length_le (by omega)]
section
variable {G : Gp} {a b p : Addr} {t u v : T} {xs ys : List T} {kvs : List (T × T)} {i j : Int} {s : Str} {Φ : QT}
theorem j7 (h : G a = some (.dic kvs)) (hk : (bK u).isSome = true) (hl : aP kvs u = some t) : cg (.ref a) u G Φ = Φ t G:=by
 obtain ⟨k,e⟩:=Option.isSome_iff_exists.mp hk
 simp [cg,h,e,hl]
theorem ac5 (h : G a = some (.lst xs)) (hl : atI xs i = some t) : cg (.ref a) (.int i) G Φ = Φ t G:=by
 simp [cg,h,hl]
theorem wF {α : Type} {xs : List α} {n : Nat} (h : n < xs.length) : atI xs (n : Int) = xs[n]?:=by
 unfold atI ixN
 simp [show (n : Int) < (xs.length : Int) by omega,show ¬ ((n : Int) < 0) by omega]
theorem adY (h : G a = some (.lst xs)) : ee [.ref a] G Φ = Φ (.int (xs.length : Int)) G:=by simp [ee,h]
theorem xO {Ψ : Gp -> Prop} (h : G a = some (.dic kvs)) (hk : (bK u).isSome = true) : setT (.ref a) u v G Ψ = (kvs.length < sizeLine /\ Ψ (gup G a (.dic (dput kvs u v)))):=by
 obtain ⟨k,e⟩:=Option.isSome_iff_exists.mp hk
 simp [setT,h,e]
theorem xh {Ψ : List T -> (Gp -> Prop) -> Gp -> Prop} (h : G a = some (.lst xs)) (q : Ψ xs (fun G' => G' a = some (.lst xs)) G) : d8 (.ref a) G Ψ:=by simp only [d8,h]; exact q
theorem x8 {Ψ : List T -> (Gp -> Prop) -> Gp -> Prop} {ob : Obj} {raw : List (Key × V)} (h : G a = some (.fdic ob raw kvs)) (q : Ψ (kvs.map (·.1)) (fun G' => G' a = some (.fdic ob raw kvs)) G) : d8 (.ref a) G Ψ:=by simp only [d8,h]; exact q
theorem fresh_ne {o : O} {p : Addr} (h : G a = some o) (hp : G p = none) : p ≠ a:=fun z => by rw [z,h] at hp; cases hp
theorem qb {Ψ : Gp -> Prop} (h : G a = some (.dic kvs)) (hl : kvs.length < sizeLine) (q : Ψ (gup G a (.dic (dput kvs u v)))) (hk : (bK u).isSome = true:=by rfl) : setT (.ref a) u v G Ψ:=by
 rw [xO h hk]; exact ⟨hl,q⟩
theorem i6 (h : G a = some (.dic kvs)) (hl : aP kvs u = some t) (q : Φ t G) (hk : (bK u).isSome = true:=by rfl) : cg (.ref a) u G Φ:=by rw [j7 h hk hl]; exact q
theorem xP (h : G a = some (.lst xs)) (hl : atI xs i = some t) (q : Φ t G) : cg (.ref a) (.int i) G Φ:=by rw [ac5 h hl]; exact q
theorem qx (h : G a = some (.lst xs)) (q : Φ (.int (xs.length : Int)) G) : ee [.ref a] G Φ:=by rw [adY h]; exact q
theorem dY {α : Type} {x : α} {r : List α} : atI (x :: r) 0 = some x:=by
 unfold atI ixN
 rw [if_pos (Int.le_refl 0),if_pos (by simp only [List.length_cons]; omega)]
 rfl
theorem fN {α : Type} {x y : α} {r : List α} : atI (x :: y :: r) 1 = some y:=by
 unfold atI ixN
 rw [if_pos (by decide),if_pos (by simp only [List.length_cons]; omega)]
 rfl
theorem pR {α : Type} {x y z : α} {r : List α} : atI (x :: y :: z :: r) 2 = some z:=by
 unfold atI ixN
 rw [if_pos (by decide),if_pos (by simp only [List.length_cons]; omega)]
 rfl
theorem afn (h : G a = some (.lst xs)) : iD (.ref a) [u] G Φ = (xs.length < sizeLine /\ Φ .non (gup G a (.lst (xs ++ [u])))):=by simp [iD,h]
theorem ac1 {n : Nat} (h : G a = some (.lst xs)) (hi : i = n) (hn : n < 2 ^ 63) (hx : xs[n]? = some u) : gJ (.ref a) [.int i] G Φ = Φ u (gup G a (.lst (xs.eraseIdx n))):=by
 subst hi
 simp [gJ,h,hx]
 intro _; omega
theorem vI (h : G a = some (.lst xs)) (hl : xs.length < sizeLine) (q : Φ .non (gup G a (.lst (xs ++ [u])))) : iD (.ref a) [u] G Φ:=by rw [afn h]; exact ⟨hl,q⟩
theorem abo {n : Nat} (h : G a = some (.lst xs)) (hi : i = n) (hn : n < 2 ^ 63) (hx : xs[n]? = some u) (q : Φ u (gup G a (.lst (xs.eraseIdx n)))) : gJ (.ref a) [.int i] G Φ:=by rw [ac1 h hi hn hx]; exact q
theorem uz (h : G a = some (.lst xs)) : g9 "list" (.ref a) G:=by simp [g9,h]
theorem aaa (q : Φ (.int (i + j)) G) : jP (.int i) (.int j) G Φ:=q
end
end Dv
noncomputable section
namespace Dv
open PySem PySem.Spec PyProof.Rows L2
variable [Dv.Wld]
def eL (K : Fr0) (H : Hp) (G : Gp) (a : Addr) (ns : List Int) : Prop:=(∃ o,H a = some (.frz o (.lst (ns.map V.int))) /\ ¬ Own H G a) \/
 ∃ (o : Obj) (its : Array Value) (n : Nat),K.lookup a = some o /\ o.cls = .type "list" /\ o.dict = none /\ o.data = .seq its n /\ its.size <= sizeLine /\ Vals (ns.map V.int) its.toList
theorem eL.sq {K : Fr0} {H : Hp} {G : Gp} {a : Addr} {ns : List Int} (h : eL K H G a ns) : SqL K H a (ns.map V.int):=h.elim (fun ⟨o,e,_⟩ => .inl (.inr ⟨o,e⟩)) fun h => .inr h
theorem eL.of {K : Fr0} {H : Hp} {a : Addr} {ns : List Int} (hO : Only H) (h : SqL K H a (ns.map V.int)) : eL K H (fun _ => none) a ns:=by
 rcases h with (h | ⟨o,h⟩) | h
 . rcases hO a with z | ⟨o,xs,z⟩
   . rw [z] at h; cases h
   . rw [z] at h; cases h
 . exact .inl ⟨o,h,fun z => z.elim (fun ⟨o,e⟩ => by cases e) fun ⟨d,n,e,_⟩ => by cases e⟩
 . exact .inr h
theorem eL.step {K : Fr0} {H H' : Hp} {G G' : Gp} {a : Addr} {ns : List Int} (h : eL K H G a ns) (s : Step H G H' G') : eL K H' G' a ns:=h.elim (fun ⟨o,e,no⟩ => .inl ⟨o,s.fr a _ e (fun ps z => by cases z) no⟩) .inr
section
variable {X : Cx} {tg e : Expr} {la : LE}
theorem afj {K : Fr0} {en : En} {a : Addr} {ns : List Int} (hS : ∀ H G,HRel K en H G -> SqL K H a (ns.map V.int)) : ItOk K en (Itl K a) (ns.map T.int) (fun _ => True) (fun _ => True) where
 stab:=fun _ _ _ h => h
 go:=fun i H G g _ _ hi => by
  have hi' : i < ns.length:=by simpa using hi
  exact ⟨_,.int ns[i],hS H G g,by simp [hi']⟩
 stop:=fun i H G g _ _ hi => ⟨_,hS H G g,by simpa using hi⟩
 yld:=fun i H G x H' g _ _ y hi => by
  obtain ⟨e,y⟩:=y
  subst e
  have hi' : i < ns.length:=by simpa using hi
  have e:=y _ (hS _ G g)
  rw [List.getElem?_map,List.getElem?_eq_getElem hi'] at e
  cases e
  exact ⟨.int ns[i],by simp [hi'],.int _,g,Step.refl _ _⟩
theorem acG {a : Addr} {ns : List Int} (hS : ∀ H G,HRel X.K en H G -> SqL X.K H a (ns.map V.int)) (h : E en X e la) : Ei en X tg e (fun S G Ψ => la S G fun t G1 => t = .ref a /\ Ψ (ns.map T.int) (fun _ => True) G1):=by
 refine PI.weak (pi_list h) fun σ H R ⟨S,G,Ψ,s,g,q,k⟩ => ?_
 refine ⟨S,G,_,s,g,q,fun t G1 v H1 q1 r1 g1 s1 => ?_⟩
 obtain ⟨e,q1⟩:=q1
 subst e
 cases r1
 exact ⟨a,rfl,⟨_,hS H1 G1 g1⟩,k _ _ _ _ _ _ q1 g1 s1 (afj hS) True.intro⟩
end
def oJ : aI:=fun ts G Φ _ => ∃ a,ts = [.ref a] /\ (∀ d n,G d ≠ some (.drw n)) /\ ∀ d,G d = none -> Φ (.ref d) (gup G d (.drw 0))
def w5 : aI:=fun ts G Φ _ => ∃ a,ts = [.ref a] /\ ∀ d lg it ls is,G d = none -> G lg = none -> G it = none -> Opn d lg it 0 0 ls is 0 -> Φ (.ref d) (aR G d lg it 0 0 ls is)
def adA : aI:=fun ts G Φ _ => ∃ d a n xs,ts = [.ref d,.ref a] /\ G d = some (.drw n) /\ G a = some (.lst xs) /\ 0 < xs.length /\ xs.length < 2 ^ 30 /\ n < dw /\ ∀ x ∈ xs,Φ x (gup G d (.drw (n + 1)))
def eY (K : Fr0) (sp : aI) : Sp:=fun vs H Q E => ∃ a ns G Φ ΦE,vs = [.ref a] /\ eL K H G a ns /\ ns.length <= 63 /\ HRel K [] H G /\ sp [.ref a] G Φ ΦE /\ (∀ t G' v H',Φ t G' -> Rel K H' v t -> HRel K [] H' G' -> Step H G H' G' -> Q v H') /\ nY K H G ΦE E
theorem aaF {K : Fr0} : ∀ vs H Q E,eY K oJ vs H Q E -> eY K w5 vs H Q E:=by
 rintro vs H Q E ⟨a,ns,G,Φ,ΦE,e,hS,hn,g,⟨a',e',hd,q⟩,k1,k2⟩
 refine ⟨a,ns,G,fun u G' => ∃ d lg it ls is,u = .ref d /\ G d = none /\ G lg = none /\ G it = none /\ Opn d lg it 0 0 ls is 0 /\ G' = aR G d lg it 0 0 ls is,fun _ _ _ => False,e,hS,hn,g,
  ⟨a,rfl,fun d lg it ls is h1 h2 h3 o => ⟨d,lg,it,ls,is,rfl,h1,h2,h3,o,rfl⟩⟩,?_,fun _ _ _ _ _ _ z => z.elim⟩
 rintro u G' v H' ⟨d,lg,it,ls,is,rfl,h1,h2,h3,o,rfl⟩ rv g' s'
 obtain ⟨g2,own2⟩:=yV (d:=d) (lg:=lg) (it:=it) (G:=G) (fun d' n' z => absurd z (hd d' n')) h2 h3 o g'
 refine k1 _ _ v H' (q d h1) rv g2 ⟨fun a u ea ya na => ?_,s'.al⟩
 obtain ⟨z1,z2⟩:=s'.fr a u ea ya na
 exact ⟨z1,fun z => z2 ((own2 a).mp z)⟩
section
variable {P : Program} {w : World} {K : Fr0} {mg : Str -> Option Value} {base : Heap} {x : Str} {k : Nat}
structure KnB (P : Program) (w : World) (K : Fr0) (mg : Str -> Option Value) (base : Heap) (k : Nat) (x : Str) (sp : aI) : Prop where
 ex : ∃ (f : Addr) (fd : FuncData) (ps : List Str),FnOk P w K mg base (L2.CX P w) k f fd ps (eY K sp) /\ mg x = some (.ref f) /\ PySem.W.keepIn K (.ref f) = true /\ Binds K fd ps []
theorem abu (F : KnB P w K mg base k x w5) : KnB P w K mg base k x oJ:=by
 obtain ⟨f,fd,ps,a,r⟩:=F.ex
 exact ⟨f,fd,ps,a.imp aaF,r⟩
abbrev vN (P : Program) (w : World) (K : Fr0) (mg : Str -> Option Value) (base : Heap) (N : List Str) (x : Str) (st : Stmt) (f : Addr) (k : Nat) (sp : aI) : Prop :=
 ∀ (cdv : Value) (A : Around) (outer : List PySem.Env) (s : Shared) (H : Hp) (E : XK) (G : Gp) (Φ : QT) (ΦE : cW) (a : Addr) (ns : List Int),Room k (A.deeper (envOfC x (defScope st) s.heap.objs.size f cdv)) -> nY K H G ΦE E ->
     ns.length <= 63 -> (∀ H' G',HRel K [(H,G)] H' G' -> eL K H' G' a ns) -> sp [.ref a] G Φ ΦE -> ∃ l,dj [(H,G)] (bx P w K mg base N x (defScope st) f cdv A outer s H E) (defBody st) l /\ l (gj Φ) (bo N [.ref a]) G
theorem ae4 {st : Stmt} {N ps : List Str} {sp : aI} {f : Addr} {fd : FuncData} (F : Fun K x x st f fd) (S : FnScope N ps (defScope st)) (len : ps.length = 1) (hbody : vN P w K mg base N x st f k sp) : FnOk P w K mg base (L2.CX P w) (k + 1) f fd ps (eY K sp):=by
 refine F.okX S (fun vs H Q E ⟨a,ns,G,Φ,ΦE,e,_⟩ => by rw [e,len]; rfl) (fun cdv A outer s H vs Q E hr h => ?_)
 obtain ⟨a,ns,G,Φ,ΦE,rfl,hS,hn,g,q,k1,k2⟩:=h
 obtain ⟨l,b,q2⟩:=hbody cdv A outer s H E G Φ ΦE a ns hr k2 hn (fun H' G' g' => hS.step (g'.hist _ (List.mem_singleton.mpr rfl))) q
 exact ⟨_,b,bo N _,G,gj Φ,qz (.cons (.ref a) .nil),g.enter,q2,sW k1⟩
theorem ad4 {st : Stmt} {N ps : List Str} {sp : aI} (D : Df K mg x st ps) (S : FnScope N ps (defScope st)) (len : ps.length = 1) (hbody : ∀ f,vN P w K mg base N x st f k sp) : KnB P w K mg base (k + 1) x sp:=by
 obtain ⟨f,fd,F,hm,hb⟩:=D.ex
 exact ⟨f,fd,ps,ae4 F S len (hbody f),hm,F.kp,hb⟩
end
section
variable {X : Cx} {e : Expr} {la : LE} {pos p : Pos} {k : Nat} {x : Str} {sp : aI}
theorem acX {a : Addr} {ns : List Int} (F : KnB X.prog X.w X.K X.mg X.base k x sp) (hn : ns.length <= 63) (hS : ∀ H G,HRel X.K en H G -> eL X.K H G a ns) (hr : Room k X.A) (ha : E en X e la) (hg : Gl X x:=by rfl) (hdb : (x == ("__debug__" : Str)) = false:=by decide)
 (he : starEach [e] X.env = (false,eval e X.env) :: starEach [] X.env:=by rfl) : E en X (.Call (.Name x p) [e] [] pos) (fun S G Φ => la S G fun t G1 => t = .ref a /\ sp [.ref a] G1 Φ bH):=by
 obtain ⟨f,fd,ps,F,hm,hk,hb⟩:=F.ex
 refine PE.weak (pe_call (E:=eO X.K en bH) F hr hg hm hk hb .nil iO (pa_cons ha pa_nil he) hdb he) fun σ H Q ⟨S,G,Φ,s,g,q,kk⟩ => ?_
 refine ⟨S,G,_,s,g,q,fun t G1 v H1 q1 r1 g1 s1 => ?_⟩
 obtain ⟨e1,q1⟩:=q1
 subst e1
 cases r1
 exact ⟨a,ns,G1,Φ,bH,rfl,hS H1 G1 g1,hn,g1.nil,q1,fun t G' v H' a b c d => kk t G' v H' a b (g1.back c d) (s1.trans d),fun C fs G' H' cls d a b c d' => a.elim⟩
end
section
variable {X : Cx} {a b e o : Expr} {es : List Expr} {la lb : LE} {l : LA} {pos apos cpos : Pos}
def v4 (l : LA) : LE:=fun S G Φ => l S G fun ts G1 => ts.length <= sizeLine /\ Φ (.ptup ts) G1
def t8 : T -> T
 | .ptup ts => .tup ts
 | t => t
def yr (la : LE) : LE:=fun S G Φ => la S G fun t G1 => Φ (t8 t) G1
def oA : bj
 | .ptup xs,.tup ys,G,Φ => xs ≠ [] /\ xs.length + ys.length <= sizeLine /\ Φ (.ptup (xs ++ ys)) G
 | _,_,_,_ => False
def wt (la lb : LE) : LE:=fun S G Φ => la S G fun t G1 => match t with
 | .ptup ts => lb S G1 fun u G2 => abI (.tup ts) [u] G2 Φ
 | _ => False
end
end Dv
noncomputable section
namespace Dv
open PySem PySem.Spec PyProof.Rows L2 PySem.Froz
variable [Dv.Wld]
structure TxS (P : Program) (w : World) (h : Heap) (a : Addr) (l : List Str) : Prop where
 ex : ∃ D : SD,h.get? a = some (sObj "set" D) /\ TxOk P w D l /\ Ris D.2.2.place.toList /\ (w.params.followText "set-order" = true \/ D.2.2.led = true)
 nd : l.Nodup
def newSet (w : World) : Obj:={ cls:=.type "set",dict:=none,data:=.set #[] 0 (.fresh 0 0 (!w.params.followText "set-order")) }
section
variable {P : Program} {w : World} {A : Around} {E : Value -> Shared -> Prop} {s : Shared}
theorem TxS.at {h h' : Heap} {a : Addr} {l : List Str} (x : TxS P w h a l) (k : ∀ o,h.get? a = some o -> h'.get? a = some o) : TxS P w h' a l:=by
 obtain ⟨⟨D,e,r⟩,nd⟩:=x
 exact ⟨⟨D,k _ e,r⟩,nd⟩
theorem zQ {h : Heap} {a : Addr} (e : h.get? a = some (newSet w)) : TxS P w h a [] :=
 ⟨⟨(#[],0,.fresh 0 0 (!w.params.followText "set-order")),e,.nil (by rfl),List.Pairwise.nil,by
  show _ \/ (!w.params.followText "set-order") = true
  cases w.params.followText "set-order"
  . exact .inr rfl
  . exact .inl rfl⟩,List.nodup_nil⟩
theorem zg {ep : Nat} {es : Array (Int × Value)} {t : SetTable} {b : Bool} (r : Ris t.place.toList) : Ris (tailTx ep es t b).2.2.place.toList /\ (tailTx ep es t b).2.2.led = t.led:=by
 unfold tailTx
 split
 . exact ⟨relayAll_ris t es _,relayAll_led t es _⟩
 . exact ⟨r,rfl⟩
theorem abR {h : Int} {v : Value} {D : SD} (r : Ris D.2.2.place.toList) : Ris (addTx h v D).2.2.place.toList /\ (addTx h v D).2.2.led = D.2.2.led:=by
 have r1:=layNew_ris D.2.2 D.1 h v r
 have l1:=layNew_led D.2.2 D.1 h v
 unfold addTx
 by_cases c : (layNew D.2.2 D.1 h v).2.1.plain = true
 . simp only [if_pos c]
   have:=zg (ep:=D.2.1) (es:=(layNew D.2.2 D.1 h v).1) (t:={ (layNew D.2.2 D.1 h v).2.1 with plain:=false }) (b:=(layNew D.2.2 D.1 h v).2.2.1) r1
   exact ⟨this.1,this.2.trans l1⟩
 . simp only [if_neg c]
   have:=zg (ep:=D.2.1) (es:=(layNew D.2.2 D.1 h v).1) (t:=(layNew D.2.2 D.1 h v).2.1) (b:=(layNew D.2.2 D.1 h v).2.2.1) r1
   exact ⟨this.1,this.2.trans l1⟩
theorem z4 {a : Addr} {D : SD} {l : List Str} {k : Str} {u : Tok} {Q : Bool -> Shared -> Prop} (ho : s.heap.get? a = some (sObj "set" D)) (F : TxOk P w D l) (hk : k ∈ l) (hb : l.length + 1 < scanBound)
 (h : Q false s) : wpAny (model P w) A (setAddHashed a (.str k u) (hashStr w k)) Q E s:=by
 obtain ⟨es,ep,t⟩:=D
 have hel : ElemsOf (strKind P w) es.toList:=F.el
 have hz : es.size = l.length:=F.sz
 have hb0 : es.size < scanBound:=by omega
 have hkey : (strKind P w).is k (.str k u) = true:=is_str k u
 unfold setAddHashed setAddHashedIn
 refine wpAny_holding (wpAny_bind (wpAny_setState_of ho rfl F.fit ?_))
 dsimp only
 rw [byScan_of rfl hb0 hel]
 simp only [↓reduceIte]
 unfold setAddByScan
 refine wpAny_bind (wpAny_bind (wpAny_rule (wpAny_bind (wpAny_setScan_of (knd:=strKind P w) (k:=k) hkey ho rfl F.fit hel ?_))))
 cases hr : List.findIdx? (fun e => (strKind P w).is k e.2) es.toList with
 | none =>
  obtain ⟨e,he,q⟩:=(F.mem k).mp hk
  have c:=List.findIdx?_eq_none_iff.mp hr e he
  rw [q] at c
  cases c
 | some j => exact wpAny_pure (wpAny_pure h)
theorem ael {a : Addr} {l : List Str} {k : Str} {u : Tok} {Q : Bool -> Shared -> Prop} (x : TxS P w s.heap a l) (hb : l.length + 1 < scanBound)
 (h : ∀ (b : Bool) (h' : Heap) (tk : Nat) (l' : List Str),TxS P w h' a l' -> l'.length <= l.length + 1 -> (∀ y,y ∈ l' ↔ y ∈ l \/ y = k) -> (∀ c,c ≠ a -> h'.get? c = s.heap.get? c) -> s.toks <= tk -> Q b { s with heap:=h',toks:=tk }) :
    wpAny (model P w) A (setAdd a (.str k u)) Q E s:=by
 obtain ⟨⟨D,ho,F,r,ld⟩,nd⟩:=x
 unfold setAdd
 refine wpAny_holding (wpAny_bind ((strKind P w).pyHash (k:=k) (is_str k u) ?_))
 by_cases hk : k ∈ l
 . exact z4 (s:={ s with toks:=s.toks + 1 }) ho F hk hb (h _ _ _ l ⟨⟨D,ho,F,r,ld⟩,nd⟩ (Nat.le_succ _) (fun y => ⟨.inl,fun z => z.elim id fun z => z ▸ hk⟩) (fun _ _ => rfl) (Nat.le_succ _))
 . refine add_x (s:={ s with toks:=s.toks + 1 }) ho F hk hb ?_
   obtain ⟨r1,l1⟩:=abR (h:=hashStr w k) (v:=.str k u) r
   refine h _ _ _ (k :: l) ⟨⟨_,get_upd _ ho rfl,add_ok u F,r1,ld.imp id fun z => by rw [l1]; exact z⟩,List.nodup_cons.mpr ⟨hk,nd⟩⟩ (Nat.le_refl _) (fun y => by rw [List.mem_cons]; exact Or.comm) (fun c hc => ?_) (Nat.le_succ _)
   exact Heap.get?_update_ne _ _ _ _ hc
theorem zP {I : Addr} {fp wr : List Addr} {G : Array GenState -> Array GenState -> Prop} {n : Nat} {Pv : Nat -> Value -> Prop} {St : Nat -> Shared -> Prop} {R : Result -> Shared -> Prop} (W : WalksS P w A.in1 I fp wr G n Pv St)
 (S : Addr) (out : S ∉ fp) (xs : List Str) (hn : n = xs.length) (hb : xs.length + 1 < scanBound) (hval : ∀ i v,Pv i v -> ∃ k t,xs[i]? = some k /\ v = .str k t) :
 ∀ (m i : Nat) (s : Shared),n - i = m -> i <= n -> St i s -> (∃ l,TxS P w s.heap S l /\ l.length <= i /\ ∀ y,y ∈ l ↔ y ∈ xs.take i) ->
     (∀ s' l,Moved (S :: wr) G s s' -> TxS P w s'.heap S l -> l.length <= n -> (∀ y,y ∈ l ↔ y ∈ xs) -> R (.ok (.ret .none)) s') -> codeAny (model P w) A (.builtin "set.update.loop" ⟨[.ref S,.ref I],[]⟩) R s:=by
 have noS : S ∉ wr:=fun z => out (W.sub _ z)
 have more : ∀ b ∈ wr,b ∈ S :: wr:=fun b z => List.mem_cons_of_mem _ z
 intro m
 induction m with
 | zero =>
  rintro i s hm hi st ⟨l,hl,hc,hx⟩ hR
  obtain rfl : i = n:=by omega
  refine codeAny_builtin F.entry_set_update_loop ?_
  rw [Around.under_plainId F.plain_set_update_loop _]
  refine wpAny_bind (m:=pyNext (.ref I)) (W.done s _ _ st fun s' mv => wpAny_pure (hR s' l (mv.mono more) (hl.at fun o e => mv.heap S o noS e) hc fun y => ?_))
  rw [hx y,List.take_of_length_le (by omega)]
 | succ m ih =>
  rintro i s hm hi st ⟨l,hl,hc,hx⟩ hR
  have lt : i < n:=by omega
  refine codeAny_builtin F.entry_set_update_loop ?_
  rw [Around.under_plainId F.plain_set_update_loop _]
  refine wpAny_bind (m:=pyNext (.ref I)) (W.item i s _ _ lt st fun v s1 hv st1 mv => ?_)
  obtain ⟨z,t,hz,rfl⟩:=hval i v hv
  show wpAny _ A.in1 (holding [Value.str z t] (setAdd S (.str z t)) >>= _) _ _ s1
  refine wpAny_bind (wpAny_holding (ael (hl.at fun o e => mv.heap S o noS e) (by omega) fun b h' tk l' hl' hc' hx' same le => ?_))
  refine wpAny_pure ⟨plainId_quiet F.plain_set_update_loop _,ih (i + 1) _ (by omega) lt (W.frame _ s1 _ _ st1 le fun c hcf o e => ?_) ⟨l',hl',by omega,fun y => ?_⟩ fun s2 l2 mv2 hl2 hc2 hx2 => ?_⟩
  . rw [same c fun z => out (by rw [<- z]; exact hcf)]; exact e
  . rw [hx' y,hx y,List.take_add_one,hz]
    simp [List.mem_append]
  . refine hR s2 l2 (Moved.trans W.gtrans ((mv.mono more).then_heap le fun c o hcf e => ?_) mv2) hl2 hc2 hx2
    rw [same c fun z => hcf (by rw [z]; exact List.mem_cons_self)]; exact e
def uB (E : Value -> Shared -> Prop) (q : Shared -> Prop) : Result -> Shared -> Prop:=fun r s₂ => match r with
 | .ok (.ret v) => v = .none /\ q s₂
 | .error e => E e s₂
 | _ => False
theorem tJ {l : Addr} {Q : Value -> Shared -> Prop} (hh : A.handled = none)
 (h : ∀ B : Around,B.handled = none -> wpAny (model P w) B.in1 (Builtin.«set.__init__» ⟨[.ref s.heap.objs.size,.ref l],[]⟩)
     (fun fin s₂ => match fin with | .done f => uB E (Q (.ref s.heap.objs.size)) (.ok f) s₂ | .again c => c.quiet = true /\ codeAny (model P w) B c (uB E (Q (.ref s.heap.objs.size))) s₂) E { s with heap:=s.heap.push (newSet w) }) :
    wpAny (model P w) A (call (.type "set") [.ref l]) Q E s:=by
 have ⟨c,tl,hm⟩:=F.called_set.mro
 have h1:=F.called_set.made
 have h2:=F.called_set.sub
 have h3:=F.called_set.notType
 have h4:=F.called_set.canCreate
 have h5:=F.typeCall_set_1 (.ref l)
 refine wpAny_call (codeAny_of_tree (wpAny_pure ⟨Code.quiet_builtin _ (by decide +kernel),codeAny_builtin F.entry_type_call ?_⟩))
 rw [Around.under_plain (weight_type_call_type "set" [.ref l] []) rfl]
 repeat (any_goals (first | assumption | wp_step))
 refine codeAny_mono (code_set_led1 (.ref l) (E:=E) (Q₁:=fun o z => o = .ref s.heap.objs.size /\ z = { s with heap:=s.heap.push (newSet w) }) ⟨rfl,rfl⟩) fun r z hz => ?_
 cases r with
 | error _ => exact hz
 | ok f =>
  cases f with
  | ret o =>
   obtain ⟨rfl,rfl⟩:=hz
   have hT : Shared.TypeIs { s with heap:=s.heap.push (newSet w) } (.ref s.heap.objs.size) "set":=⟨_,Heap.get?_push_size _ rfl,rfl⟩
   have i1:=F.called_set.init.lookup
   have i2:=F.called_set.init.bind (.ref s.heap.objs.size)
   repeat (any_goals (first | assumption | wp_step))
   refine codeAny_mono (codeAny_call_builtin (R:=uB E (Q (.ref s.heap.objs.size))) F.called_set.init.plain F.entry_set_init (check_set_init_1 hT (h _ ?_))) fun r2 z2 hz2 => ?_
   . simp [hh]
   . cases r2 with
     | error e => exact hz2
     | ok f2 =>
      cases f2 with
      | ret v =>
       obtain ⟨rfl,q⟩:=hz2
       repeat (any_goals (first | assumption | wp_step))
      | _ => exact hz2.elim
  | _ => exact hz.elim
theorem sJ : ∀ {us : List Value} {xs : List Str},StrsAre us xs -> ∀ (i : Nat) (v : Value),us[i]? = some v -> ∃ k t,xs[i]? = some k /\ v = .str k t
 | _,_,.nil,_,_,h => by cases h
 | _,_,.cons x t r,0,v,h => by cases h; exact ⟨x,t,rfl,rfl⟩
 | _,_,.cons x t r,i + 1,v,h => sJ r i v h
theorem acw {l : Addr} {items : Array Value} {Q : Value -> Shared -> Prop} (xs : List Str) (hh : A.handled = none) (hl : s.heap.IsList l items) (hit : StrsAre items.toList xs) (hb : xs.length + 1 < scanBound)
 (h : ∀ (h' : Heap) (tk : Nat) (ys : List Str),TxS P w h' s.heap.objs.size ys -> ys.length <= xs.length -> (∀ y,y ∈ ys ↔ y ∈ xs) -> (∀ b o,s.heap.get? b = some o -> h'.get? b = some o) -> Q (.ref s.heap.objs.size) { s with heap:=h',toks:=tk }) :
    wpAny (model P w) A (call (.type "set") [.ref l]) Q E s:=by
 refine tJ hh fun B hB => ?_
 have n1 : items.size = xs.length:=by
  have q:=hit.len_eq
  rwa [Array.length_toList] at q
 obtain ⟨⟨_,od,_,os⟩,ho,hc,n,hd⟩:=hl
 simp only at hc hd
 subst hc hd
 have lt : l < s.heap.objs.size:=Heap.lt_size ho
 have hl : s.heap.IsList l items:=⟨_,ho,rfl,n,rfl⟩
 have ho' : (s.heap.push (newSet w)).get? l = some { cls:=.type "list",dict:=od,data:=.seq items n,slots:=os }:=Heap.get?_push_of_some _ ho
 have j1:=F.sub_list_set
 have j2:=F.sub_list_frozenset
 have j3 : (Value.type "list" == Value.type "dict") = false:=by decide
 unfold Builtin.«set.__init__» noKeywords Builtin.Frozenset.updateFrom
 generalize hPI : pyIter = PI
 wp_walk
 subst hPI
 refine wpAny_pyIter_list (hl.push _) (wpAny_bind (wpAny_runValue ?_))
 have z1 : (s.heap.push (newSet w)).objs.size = s.heap.objs.size + 1:=Heap.size_push ..
 have ne : l ≠ (s.heap.push (newSet w)).objs.size:=by rw [z1]; exact Nat.ne_of_lt (Nat.lt_succ_of_lt lt)
 have out : s.heap.objs.size ∉ [(s.heap.push (newSet w)).objs.size,l]:=fun z => by
  rcases List.mem_cons.mp z with z | z
  . rw [z1] at z; exact absurd z (Nat.ne_of_lt (Nat.lt_succ_self _))
  . exact absurd (List.mem_singleton.mp z) (Nat.ne_of_gt lt)
 have hh3 : B.in1.in1.handled = none:=by simp [hB]
 refine zP ((Walks.list hh3 _ l ne items).toS) s.heap.objs.size out xs n1 hb (fun i v hv => ?hv) (items.size - 0) 0 _ (by omega) (Nat.zero_le _) ⟨⟨_,Heap.get?_push_size _ rfl,rfl,rfl⟩,(hl.push _).push _⟩ ⟨[],zQ (Heap.get?_push_of_some _ (Heap.get?_push_size _ rfl)),Nat.le_refl _,fun y => by simp⟩ ?hR
 case hv =>
  obtain ⟨k,t,e1,e2⟩:=sJ hit i v (by rw [Array.getElem?_toList]; exact hv)
  exact ⟨k,t,e1,e2⟩
 case hR =>
  intro z ys mv hys hc hm
  obtain ⟨h',g2,d2,tk,o2⟩:=z
  have e1 : g2 = s.gens:=mv.gens
  have e2 : d2 = s.drawn:=mv.drawn
  have e3 : o2 = s.os:=mv.os
  subst e1 e2 e3
  refine wpAny_pure (wpAny_pure ⟨rfl,h h' tk ys hys (by omega) hm fun b o e => mv.heap b o ?_ (Heap.get?_push_of_some _ (Heap.get?_push_of_some _ e))⟩)
  have lb:=Heap.lt_size e
  intro z
  rcases List.mem_cons.mp z with z | z
  . exact absurd z (Nat.ne_of_lt lb)
  . exact absurd ((List.mem_singleton.mp z).trans z1) (Nat.ne_of_lt (Nat.lt_succ_of_lt lb))
theorem aeI {l : Addr} {items : Array Value} {Q : Value -> Shared -> Prop} (xs : List Str) (hh : A.handled = none) (hl : s.heap.IsTuple l items) (hit : StrsAre items.toList xs) (hb : xs.length + 1 < scanBound)
 (h : ∀ (h' : Heap) (tk : Nat) (ys : List Str),TxS P w h' s.heap.objs.size ys -> ys.length <= xs.length -> (∀ y,y ∈ ys ↔ y ∈ xs) -> (∀ b o,s.heap.get? b = some o -> h'.get? b = some o) -> Q (.ref s.heap.objs.size) { s with heap:=h',toks:=tk }) :
    wpAny (model P w) A (call (.type "set") [.ref l]) Q E s:=by
 refine tJ hh fun B hB => ?_
 have n1 : items.size = xs.length:=by
  have q:=hit.len_eq
  rwa [Array.length_toList] at q
 obtain ⟨⟨_,od,_,os⟩,ho,hc,n,hd⟩:=hl
 simp only at hc hd
 subst hc hd
 have lt : l < s.heap.objs.size:=Heap.lt_size ho
 have hl : s.heap.IsTuple l items:=⟨_,ho,rfl,n,rfl⟩
 have ho' : (s.heap.push (newSet w)).get? l = some { cls:=.type "tuple",dict:=od,data:=.seq items n,slots:=os }:=Heap.get?_push_of_some _ ho
 have j1:=F.sub_tuple_set
 have j2:=F.sub_tuple_frozenset
 have j3 : (Value.type "tuple" == Value.type "dict") = false:=by decide
 unfold Builtin.«set.__init__» noKeywords Builtin.Frozenset.updateFrom
 generalize hPI : pyIter = PI
 wp_walk
 subst hPI
 refine wpAny_pyIter_tuple (hl.push _) (wpAny_bind (wpAny_runValue ?_))
 have z1 : (s.heap.push (newSet w)).objs.size = s.heap.objs.size + 1:=Heap.size_push ..
 have ne : l ≠ (s.heap.push (newSet w)).objs.size:=by rw [z1]; exact Nat.ne_of_lt (Nat.lt_succ_of_lt lt)
 have out : s.heap.objs.size ∉ [(s.heap.push (newSet w)).objs.size,l]:=fun z => by
  rcases List.mem_cons.mp z with z | z
  . rw [z1] at z; exact absurd z (Nat.ne_of_lt (Nat.lt_succ_self _))
  . exact absurd (List.mem_singleton.mp z) (Nat.ne_of_gt lt)
 have hh3 : B.in1.in1.handled = none:=by simp [hB]
 refine zP ((Walks.tuple hh3 _ l ne items).toS) s.heap.objs.size out xs n1 hb (fun i v hv => ?hv) (items.size - 0) 0 _ (by omega) (Nat.zero_le _) ⟨⟨_,Heap.get?_push_size _ rfl,rfl,rfl⟩,(hl.push _).push _⟩ ⟨[],zQ (Heap.get?_push_of_some _ (Heap.get?_push_size _ rfl)),Nat.le_refl _,fun y => by simp⟩ ?hR
 case hv =>
  obtain ⟨k,t,e1,e2⟩:=sJ hit i v (by rw [Array.getElem?_toList]; exact hv)
  exact ⟨k,t,e1,e2⟩
 case hR =>
  intro z ys mv hys hc hm
  obtain ⟨h',g2,d2,tk,o2⟩:=z
  have e1 : g2 = s.gens:=mv.gens
  have e2 : d2 = s.drawn:=mv.drawn
  have e3 : o2 = s.os:=mv.os
  subst e1 e2 e3
  refine wpAny_pure (wpAny_pure ⟨rfl,h h' tk ys hys (by omega) hm fun b o e => mv.heap b o ?_ (Heap.get?_push_of_some _ (Heap.get?_push_of_some _ e))⟩)
  have lb:=Heap.lt_size e
  intro z
  rcases List.mem_cons.mp z with z | z
  . exact absurd z (Nat.ne_of_lt lb)
  . exact absurd ((List.mem_singleton.mp z).trans z1) (Nat.ne_of_lt (Nat.lt_succ_of_lt lb))
theorem strsAre_of : ∀ {vs : List Value} {ks : List Str},(∀ v ∈ vs,∃ k t,v = Value.str k t) -> vs.map strOf = ks -> StrsAre vs ks
 | [],_,_,rfl => .nil
 | v :: vs,_,h,rfl => by
  obtain ⟨k,t,rfl⟩:=h v List.mem_cons_self
  exact .cons k t (strsAre_of (fun u hu => h u (List.mem_cons_of_mem _ hu)) rfl)
theorem xX : ∀ {l ks : List Str},l.Nodup -> (∀ y,y ∈ l -> y ∈ ks) -> ks.length = l.length -> ks.Perm l
 | [],ks,_,_,e => by
  rw [List.length_eq_zero_iff.mp e]
 | a :: l,ks,nd,sub,e => by
  obtain ⟨n1,n2⟩:=List.nodup_cons.mp nd
  have ha : a ∈ ks:=sub a List.mem_cons_self
  refine (List.perm_cons_erase ha).trans (List.Perm.cons a (xX n2 (fun y hy => ?_) ?_))
  . exact (List.mem_erase_of_ne fun z => n1 (by rw [<- z]; exact hy)).mpr (sub y (List.mem_cons_of_mem _ hy))
  . rw [List.length_erase_of_mem ha,e]
    rfl
theorem ab5 {D : SD} {l : List Str} (F : TxOk P w D l) (nd : l.Nodup) : (∀ v ∈ D.1.toList.map (·.2),∃ k t,v = Value.str k t) /\ ((D.1.toList.map (·.2)).map strOf).Perm l:=by
 have tx : ∀ e ∈ D.1.toList,∃ k t,e.2 = Value.str k t:=fun e he => by
  obtain ⟨⟨k,hk,_⟩,_⟩:=F.el e he
  obtain ⟨t,q⟩:=Value.isStrOf_shape hk
  exact ⟨k,t,q⟩
 refine ⟨fun v hv => ?_,xX nd (fun y hy => ?_) ?_⟩
 . obtain ⟨e,he,rfl⟩:=List.mem_map.mp hv
   exact tx e he
 . obtain ⟨e,he,q⟩:=(F.mem y).mp hy
   obtain ⟨k,t,z⟩:=tx e he
   rw [z] at q
   have q : (k == y) = true:=q
   rw [<- eq_of_beq q]
   exact List.mem_map.mpr ⟨_,List.mem_map.mpr ⟨e,he,rfl⟩,by rw [z]; rfl⟩
 . rw [List.length_map,List.length_map,Array.length_toList,F.sz]
theorem aar {a : Addr} {l : List Str} {Q : Value -> Shared -> Prop} (x : TxS P w s.heap a l) (hh : A.handled = none) (hl : l.length < scanBound) (hL : l.length <= sizeLine)
 (hQ : ∀ s' p (out : Array Value) (c : Nat) (ys : List Str),(∀ b o,s.heap.get? b = some o -> s'.heap.get? b = some o) -> s'.gens = s.gens -> s'.os = s.os -> s.heap.objs.size <= p ->
     s'.heap.get? p = some (seqObj "list" out c) -> StrsAre out.toList ys -> sortedS ys = true -> ys.Perm l -> Q (.ref p) s') :
    wpAny (model P w) A (call (.builtin "sorted") [.ref a]) Q E s:=by
 obtain ⟨⟨D,ho,F,r,ld⟩,nd⟩:=x
 have sz : D.1.size = l.length:=F.sz
 obtain ⟨t1,t2⟩:=ab5 F nd
 refine Calls.call_function_entry kind_sorted plain_sorted entry_sorted (args_sorted1 _) (wpAny_bind (m:=checkCount "sorted" 1 1 _) (wpAny_pure ?_))
 refine wpAny_bind (collect_set (A:=A.in1) hh ⟨_,ho,rfl,rfl⟩ F.fit (by omega) r ld fun s1 vs k1 hz g1 o1 pm => ?_)
 have n1 : vs.length = l.length:=by rw [pm.length_eq,List.length_map,Array.length_toList,sz]
 have hS : StrsAre vs (vs.map strOf):=strsAre_of (fun v hv => t1 v (pm.mem_iff.mp hv)) rfl
 have pl : (vs.map strOf).Perm l:=(pm.map strOf).trans t2
 refine wpAny_bind (wpAny_newList ?_ (by rw [n1]; exact hL))
 have hoL : (s1.heap.push (seqObj "list" vs.toArray 0)).get? s1.heap.objs.size = some (seqObj "list" vs.toArray 0):=Heap.get?_push_size _ rfl
 refine wpAny_bind (wpAny_holding (wpAny_call_entry slot_list_sort ⟨_,hoL,rfl⟩ entry_list_sort (list_sort_treeKAny strKind_oneLt hoL hS.keysOf (fun v₁ v₂ rest e => keyKind_strs (by rw [<- e]; exact hS)) (by rw [n1]; exact hL) fun st p1 p2 => ⟨_,rfl,?_⟩) (args_list_sort _)))
 obtain ⟨ys,y1,y2,y3⟩:=sorted_out_str hS p1 p2
 obtain ⟨c,hc⟩:=sortedHeap_at (vs:=vs) (out:=(arrOf st).map (·.2)) hoL
 refine wpAny_pure ⟨_,rfl,hQ _ s1.heap.objs.size _ c ys (fun b u e => ?_) g1 o1 hz hc y1 y3 (y2.trans pl)⟩
 have q:=k1 b u e
 have lt:=Heap.lt_size q
 show (sortedHeap (s1.heap.push (seqObj "list" vs.toArray 0)) s1.heap.objs.size vs _).get? b = some u
 rw [sortedHeap_old (Nat.ne_of_lt lt) (by rw [size_push']; exact Nat.lt_succ_of_lt lt)]
 exact Heap.get?_push_of_some _ q
end
theorem uN : ∀ {xs : List Str} {us : List Value},L2.Vals (xs.map V.str) us -> StrsAre us xs
 | [],_,.nil => .nil
 | x :: xs,_,.cons r t => by
  obtain ⟨k,rfl⟩:=r
  exact .cons x k (uN t)
open L2
section
variable {X : Cx} {es : List Expr} {e : Expr} {ta : TA} {p p2 q pos : Pos} {en : En}
def acj (K : Fr0) : List V -> Hp -> VK -> Prop:=fun vs H Q => ∃ (a : Addr) (xs : List Str),vs = [.ref a] /\ (SqL K H a (xs.map V.str) \/ SqT K H a (xs.map V.str)) /\ xs.length <= 1000 /\
 ∀ (ys : List Str) (p : Addr),sortedS ys = true -> ys.Nodup -> (∀ y,y ∈ ys ↔ y ∈ xs) -> ys.length <= xs.length -> H p = none -> Q (.ref p) (L2.upd H p (.lst (ys.map V.str)))
def aai (K : Fr0) (ta : TA) : TE:=fun σ H Q => ta σ H fun vs H1 => acj K vs H1 Q
theorem vals_strs : ∀ {us : List Value} {ys : List Str},StrsAre us ys -> Vals (ys.map V.str) us
 | _,_,.nil => .nil
 | _,_,.cons y t r => .cons ⟨t,rfl⟩ (vals_strs r)
theorem aa3 (hc : X.calm = true) (hg : Gl X "sorted") (hm : X.mg "sorted" = none) (hg2 : Gl X "set") (hm2 : X.mg "set" = none) (ha : PA X [e] ta) (hs : starEach [e] X.env = [(false,eval e X.env)]:=by rfl)
 (na : starEach [.Call (.Name "set" p2) [e] [] q] X.env = (false,eval (.Call (.Name "set" p2) [e] [] q) X.env) :: starEach [] X.env:=by rfl) :
    PE X (.Call (.Name "sorted" p) [.Call (.Name "set" p2) [e] [] q] [] pos) (aai X.K ta):=by
 refine ⟨fun pins s σ H Q I h => ?_⟩
 refine Call_ (ld_blt I hg hm boot_sorted ?_)
 refine PyProof.Rows.callWith_builtin1 (PyProof.Rows.args_cons ?_ na) na rfl
 refine Call_ (ld_blt I hg2 hm2 boot_set (PyProof.Rows.callWith_type1 (thn (ha.run q pins s σ H _ I h) fun us s1 ⟨vs,H1,I1,r1,q1⟩ => ?_) hs rfl))
 obtain ⟨a,xs,rfl,hq,hl,q1⟩:=q1
 rw [Vals.ref1 r1]
 have hd:=I1.ok.hd hc
 have fin : ∀ (h' : Heap) (tk : Nat) (ys : List Str),TxS X.prog X.w h' s1.heap.objs.size ys -> ys.length <= xs.length -> (∀ y,y ∈ ys ↔ y ∈ xs) -> (∀ b o,s1.heap.get? b = some o -> h'.get? b = some o) ->
     wpAny (model X.prog X.w) X.A (spliced (backTo pos (starEach [] X.env))) (fun vs s₂ => wpAny (model X.prog X.w) X.A (call (.builtin "sorted") (Value.ref s1.heap.objs.size :: vs)) (EP X pins σ Q) X.xe s₂) X.xe { s1 with heap:=h',toks:=tk }:=by
  intro h' tk ys ty n1 hm1 k1
  refine PyProof.Rows.args_nil ?_
  refine aar (s:={ s1 with heap:=h',toks:=tk }) ty hd (by unfold scanBound; omega) (by rw [sizeLine_eq]; omega) fun s' p out c zs k g o hp hg hi hz pm => ?_
  have zl : (zs.map V.str).length <= sizeLine:=by rw [List.length_map,pm.length_eq,sizeLine_eq]; omega
  have hp1 : s1.heap.objs.size <= p:=by
   obtain ⟨_,ho,_⟩:=ty.ex
   exact Nat.le_trans (Nat.le_of_lt (Heap.lt_size ho)) hp
  have hn : H1 p = none:=I1.hok.fresh hp1
  have kk : ∀ b o,s1.heap.get? b = some o -> s'.heap.get? b = some o:=fun b o e => k b o (k1 b o e)
  have J : Inv X pins σ (L2.upd H1 p (.lst (zs.map V.str))) { s1 with heap:=s'.heap,gens:=s'.gens,drawn:=s'.drawn,toks:=s'.toks } :=
   I1.call (ch:=[]) (Un.laid kk hp1 hn) (I1.hok.laid kk hp1 ⟨zl,out.toList,c,vals_strs hi,hg⟩) (by rw [g]; exact I1.bare) (fun _ z => nomatch z)
  have e : s' = { s1 with heap:=s'.heap,gens:=s'.gens,drawn:=s'.drawn,toks:=s'.toks }:=by
   cases s'
   cases s1
   cases o
   rfl
  rw [e]
  exact ⟨.ref p,_,J,rfl,q1 zs p hz (pm.nodup_iff.mpr ty.nd) (fun y => by rw [pm.mem_iff,hm1]) (by rw [pm.length_eq]; exact n1) hn⟩
 rcases hq with hq | hq
 . obtain ⟨its,r,pl,hz⟩:=I1.list hq
   exact acw xs hd pl.isList (by simpa using uN r) (by unfold scanBound; omega) fun h' tk ys a1 a2 a3 a4 => fin h' tk ys a1 a2 a3 a4
 . obtain ⟨its,r,pl,hz⟩:=I1.tuple hq
   exact aeI xs hd pl (by simpa using uN r) (by unfold scanBound; omega) fun h' tk ys a1 a2 a3 a4 => fin h' tk ys a1 a2 a3 a4
theorem RelL.strsI {K : Fr0} {H : Hp} : ∀ {vs : List V} {ss : List Str},RelL K H vs (ss.map T.str) -> vs = ss.map V.str
 | _,[],.nil => rfl
 | _,_ :: _,.cons (.str _) r => by rw [RelL.strsI r]; rfl
def v3 (xs : List T) (k : List Str -> Prop) : Prop:=∃ ss : List Str,xs = ss.map T.str /\ ss.length <= 1000 /\ ∀ ys,sortedS ys = true -> ys.Nodup -> (∀ y,y ∈ ys ↔ y ∈ ss) -> ys.length <= ss.length -> k ys
def o5 : cw:=fun ts G Φ => match ts with
 | [.tup xs] => v3 xs fun ys => ∀ p,G p = none -> Φ (.ref p) (gup G p (.lst (ys.map T.str)))
 | [.ref a] => (match G a with
  | some (.lst xs) => v3 xs fun ys => ∀ p,G p = none -> Φ (.ref p) (gup G p (.lst (ys.map T.str)))
  | _ => False)
 | _ => False
theorem abO {l : LA} (hm : X.mg "sorted" = none) (hm2 : X.mg "set" = none) (ha : Ea en X [e] l) (hg : Gl X "sorted":=by rfl) (hg2 : Gl X "set":=by rfl) (hc : X.calm = true:=by rfl) (hs : starEach [e] X.env = [(false,eval e X.env)]:=by rfl)
 (na : starEach [.Call (.Name "set" p2) [e] [] q] X.env = (false,eval (.Call (.Name "set" p2) [e] [] q) X.env) :: starEach [] X.env:=by rfl) :
    E en X (.Call (.Name "sorted" p) [.Call (.Name "set" p2) [e] [] q] [] pos) (cq o5 l):=by
 refine PE.weak (aa3 hc hg hm hg2 hm2 ha hs na) fun σ H Q ⟨S,G,Φ,s,g,q0,k⟩ => ⟨S,G,_,s,g,q0,fun ts G1 vs H1 q1 r1 g1 s1 => ?_⟩
 unfold o5 at q1
 split at q1
 . cases r1 with
   | cons h1 h2 =>
    cases h2
    cases h1 with
    | tup hs rs =>
     obtain ⟨ss,rfl,hl,q1⟩:=q1
     have e:=rs.strsI
     subst e
     refine ⟨_,ss,rfl,.inr hs,hl,fun ys p y1 y2 y3 y4 hp => ?_⟩
     obtain ⟨g2,s2⟩:=dJ g1 hp (ku ys)
     exact k _ _ _ _ (q1 ys y1 y2 y3 y4 p (g1.fresh hp)) (.ref p) g2 (s1.trans s2)
 . cases r1 with
   | cons h1 h2 =>
    cases h1
    cases h2
    split at q1
    . rename_i xs e1
      obtain ⟨ss,rfl,hl,q1⟩:=q1
      obtain ⟨vs,h1,r2⟩:=g1.obj _ _ e1
      have e:=r2.strsI
      subst e
      refine ⟨_,ss,rfl,.inl (SqL.of h1),hl,fun ys p y1 y2 y3 y4 hp => ?_⟩
      obtain ⟨g2,s2⟩:=dJ g1 hp (ku ys)
      exact k _ _ _ _ (q1 ys y1 y2 y3 y4 p (g1.fresh hp)) (.ref p) g2 (s1.trans s2)
    . exact q1.elim
 . exact q1.elim
end
end Dv
noncomputable section
namespace Vl
open PySem L2 Dv
variable [Dv.Wld]
inductive PV where
 | non | bl (b : Bool) | int (i : Int) | str (x : Str) | ty (n : String) | tup (xs : List PV) | lst (xs : List PV) | dic (kvs : List (Key × PV)) | ins (C : Addr) (fs : List (Str × PV)) | exc (C : Addr) (ns : List Str) (ps : List PV) | lam (L : Lm) | dicN (kvs : List (PV × PV))
inductive Cell where
 | fr (p : PV) | ow (p : PV) | ab (R : Gp -> T -> Prop) | af (R : Gp -> Gp -> T -> Prop)
inductive RV where
 | v (c : Cell) | sl (i : Nat)
abbrev SV:=Nat -> Option Cell
def ac (σ : SV) (j : Nat) (c : Option Cell) : SV:=fun i => if i = j then c else σ i
theorem cf {σ : SV} {j i : Nat} {c : Option Cell} : ac σ j c i = if i = j then c else σ i:=rfl
def aG (F : Gp) (a : Addr) : Option (List (T × T)):=match F a with
 | some (.dic kvs) => some kvs
 | some (.fdic _ _ kvs) => some kvs
 | _ => none
mutual
inductive Rp (F : Gp) : T -> PV -> Prop
 | non : Rp F .non .non
 | bl (b : Bool) : Rp F (.bl b) (.bl b)
 | int (i : Int) : Rp F (.int i) (.int i)
 | str (x : Str) : Rp F (.str x) (.str x)
 | ty (n : String) : Rp F (.ty n) (.ty n)
 | tup {ts : List T} {ps : List PV} : RpL F ts ps -> Rp F (.tup ts) (.tup ps)
 | lst {a : Addr} {ts : List T} {ps : List PV} : F a = some (.lst ts) -> RpL F ts ps -> Rp F (.ref a) (.lst ps)
 | dic {a : Addr} {ts : List (T × T)} {ps : List (Key × PV)} : aG F a = some ts -> RpD F ts ps -> Rp F (.ref a) (.dic ps)
 | ins {a C : Addr} {ts : List (Str × T)} {ps : List (Str × PV)} : F a = some (.ins C ts) -> RpF F ts ps -> Rp F (.ref a) (.ins C ps)
 | exc {C : Addr} {ns : List Str} {ts : List T} {ps : List PV} : RpL F ts ps -> Rp F (.exc C ns ts) (.exc C ns ps)
 | lam (L : Lm) : Rp F (.lam L) (.lam L)
 | dicN {a : Addr} {ts : List (T × T)} {ps : List (PV × PV)} : eI F a = some ts -> RpN F ts ps -> Rp F (.ref a) (.dicN ps)
inductive RpL (F : Gp) : List T -> List PV -> Prop
 | nil : RpL F [] []
 | cons {t : T} {p : PV} {ts : List T} {ps : List PV} : Rp F t p -> RpL F ts ps -> RpL F (t :: ts) (p :: ps)
inductive RpD (F : Gp) : List (T × T) -> List (Key × PV) -> Prop
 | nil : RpD F [] []
 | cons {k : Key} {t : T} {p : PV} {ts : List (T × T)} {ps : List (Key × PV)} : Rp F t p -> RpD F ts ps -> RpD F ((kT k,t) :: ts) ((k,p) :: ps)
inductive RpF (F : Gp) : List (Str × T) -> List (Str × PV) -> Prop
 | nil : RpF F [] []
 | cons {k : Str} {t : T} {p : PV} {ts : List (Str × T)} {ps : List (Str × PV)} : Rp F t p -> RpF F ts ps -> RpF F ((k,t) :: ts) ((k,p) :: ps)
inductive RpN (F : Gp) : List (T × T) -> List (PV × PV) -> Prop
 | nil : RpN F [] []
 | cons {k t : T} {q p : PV} {ts : List (T × T)} {ps : List (PV × PV)} : Rp F k q -> Rp F t p -> RpN F ts ps -> RpN F ((k,t) :: ts) ((q,p) :: ps)
end
structure Le (F F' : Gp) : Prop where
 lst : ∀ a ts,F a = some (.lst ts) -> F' a = some (.lst ts)
 dic : ∀ a ts,aG F a = some ts -> aG F' a = some ts
 ins : ∀ a C ts,F a = some (.ins C ts) -> F' a = some (.ins C ts)
 dicN : ∀ a ts,eI F a = some ts -> eI F' a = some ts
theorem Le.trans {F F1 F2 : Gp} (x : Le F F1) (y : Le F1 F2) : Le F F2:=⟨fun a ts h => y.lst a ts (x.lst a ts h),fun a ts h => y.dic a ts (x.dic a ts h),fun a C ts h => y.ins a C ts (x.ins a C ts h),fun a ts h => y.dicN a ts (x.dicN a ts h)⟩
theorem Le.of {F F' : Gp} (s : Sub F F') : Le F F':=by
 refine ⟨fun a ts h => s _ _ h,fun a ts h => ?_,fun a C ts h => s _ _ h,fun a ts h => ?_⟩
 . unfold aG at h ⊢
   split at h
   . rename_i e; rw [s _ _ e]; exact h
   . rename_i e; rw [s _ _ e]; exact h
   . cases h
 . unfold eI at h ⊢
   split at h
   . rename_i e; rw [s _ _ e]; exact h
   . rename_i e; rw [s _ _ e]; exact h
   . cases h
mutual
theorem Rp.mono {F F' : Gp} (l : Le F F') : ∀ {t : T} {p : PV},Rp F t p -> Rp F' t p
 | _,_,.non => .non
 | _,_,.bl _ => .bl _
 | _,_,.int _ => .int _
 | _,_,.str _ => .str _
 | _,_,.ty _ => .ty _
 | _,_,.tup r => .tup (RpL.mono l r)
 | _,_,.lst h r => .lst (l.lst _ _ h) (RpL.mono l r)
 | _,_,.dic h r => .dic (l.dic _ _ h) (RpD.mono l r)
 | _,_,.ins h r => .ins (l.ins _ _ _ h) (RpF.mono l r)
 | _,_,.exc r => .exc (RpL.mono l r)
 | _,_,.lam _ => .lam _
 | _,_,.dicN h r => .dicN (l.dicN _ _ h) (RpN.mono l r)
theorem RpL.mono {F F' : Gp} (l : Le F F') : ∀ {t : List T} {p : List PV},RpL F t p -> RpL F' t p
 | _,_,.nil => .nil
 | _,_,.cons r s => .cons (Rp.mono l r) (RpL.mono l s)
theorem RpD.mono {F F' : Gp} (l : Le F F') : ∀ {t : List (T × T)} {p : List (Key × PV)},RpD F t p -> RpD F' t p
 | _,_,.nil => .nil
 | _,_,.cons r s => .cons (Rp.mono l r) (RpD.mono l s)
theorem RpF.mono {F F' : Gp} (l : Le F F') : ∀ {t : List (Str × T)} {p : List (Str × PV)},RpF F t p -> RpF F' t p
 | _,_,.nil => .nil
 | _,_,.cons r s => .cons (Rp.mono l r) (RpF.mono l s)
theorem RpN.mono {F F' : Gp} (l : Le F F') : ∀ {t : List (T × T)} {p : List (PV × PV)},RpN F t p -> RpN F' t p
 | _,_,.nil => .nil
 | _,_,.cons q r s => .cons (Rp.mono l q) (Rp.mono l r) (RpN.mono l s)
end
theorem Rp.sub {F F' : Gp} {t : T} {p : PV} (r : Rp F t p) (s : Sub F F') : Rp F' t p:=r.mono (.of s)
theorem RpL.sub {F F' : Gp} {t : List T} {p : List PV} (r : RpL F t p) (s : Sub F F') : RpL F' t p:=r.mono (.of s)
theorem RpD.sub {F F' : Gp} {t : List (T × T)} {p : List (Key × PV)} (r : RpD F t p) (s : Sub F F') : RpD F' t p:=r.mono (.of s)
theorem RpF.sub {F F' : Gp} {t : List (Str × T)} {p : List (Str × PV)} (r : RpF F t p) (s : Sub F F') : RpF F' t p:=r.mono (.of s)
theorem RpN.sub {F F' : Gp} {t : List (T × T)} {p : List (PV × PV)} (r : RpN F t p) (s : Sub F F') : RpN F' t p:=r.mono (.of s)
theorem RpN.length {F : Gp} : ∀ {ts : List (T × T)} {ps : List (PV × PV)},RpN F ts ps -> ts.length = ps.length
 | _,_,.nil => rfl
 | _,_,.cons _ _ r => by simp [RpN.length r]
theorem RpL.length {F : Gp} : ∀ {ts : List T} {ps : List PV},RpL F ts ps -> ts.length = ps.length
 | _,_,.nil => rfl
 | _,_,.cons _ r => by simp [RpL.length r]
theorem RpD.length {F : Gp} : ∀ {ts : List (T × T)} {ps : List (Key × PV)},RpD F ts ps -> ts.length = ps.length
 | _,_,.nil => rfl
 | _,_,.cons _ r => by simp [RpD.length r]
theorem RpF.length {F : Gp} : ∀ {ts : List (Str × T)} {ps : List (Str × PV)},RpF F ts ps -> ts.length = ps.length
 | _,_,.nil => rfl
 | _,_,.cons _ r => by simp [RpF.length r]
theorem RpL.app {F : Gp} : ∀ {ts us : List T} {ps qs : List PV},RpL F ts ps -> RpL F us qs -> RpL F (ts ++ us) (ps ++ qs)
 | _,_,_,_,.nil,s => s
 | _,_,_,_,.cons r t,s => .cons r (RpL.app t s)
theorem RpL.drop {F : Gp} : ∀ {ts : List T} {ps : List PV} (n : Nat),RpL F ts ps -> RpL F (ts.drop n) (ps.drop n)
 | _,_,0,r => r
 | _,_,_ + 1,.nil => .nil
 | _,_,n + 1,.cons _ r => RpL.drop n r
theorem RpL.take {F : Gp} : ∀ {ts : List T} {ps : List PV} (n : Nat),RpL F ts ps -> RpL F (ts.take n) (ps.take n)
 | _,_,0,_ => .nil
 | _,_,_ + 1,.nil => .nil
 | _,_,n + 1,.cons h r => .cons h (RpL.take n r)
theorem RpL.rev {F : Gp} : ∀ {ts : List T} {ps : List PV},RpL F ts ps -> RpL F ts.reverse ps.reverse
 | _,_,.nil => .nil
 | _,_,.cons q r => by
  rw [List.reverse_cons,List.reverse_cons]
  exact (RpL.rev r).app (.cons q .nil)
theorem RpL.erase {F : Gp} : ∀ {ts : List T} {ps : List PV} (n : Nat),RpL F ts ps -> RpL F (ts.eraseIdx n) (ps.eraseIdx n)
 | _,_,_,.nil => .nil
 | _,_,0,.cons _ r => r
 | _,_,n + 1,.cons q r => .cons q (RpL.erase n r)
theorem RpL.set {F : Gp} {t : T} {p : PV} (h : Rp F t p) : ∀ {ts : List T} {ps : List PV} (n : Nat),RpL F ts ps -> RpL F (ts.set n t) (ps.set n p)
 | _,_,_,.nil => .nil
 | _,_,0,.cons _ r => .cons h r
 | _,_,n + 1,.cons q r => .cons q (RpL.set h n r)
theorem RpL.get {F : Gp} : ∀ {ts : List T} {ps : List PV} {i : Nat} {p : PV},RpL F ts ps -> ps[i]? = some p -> ∃ t,ts[i]? = some t /\ Rp F t p
 | _,_,i,p,.nil,e => by simp at e
 | _,_,0,p,.cons r _,e => by simp at e; subst e; exact ⟨_,by simp,r⟩
 | _,_,i + 1,p,.cons _ r,e => by
  obtain ⟨t,h1,h2⟩:=RpL.get (i:=i) (p:=p) r (by simpa using e)
  exact ⟨t,by simpa using h1,h2⟩
theorem RpL.rep {F : Gp} {ts : List T} {ps : List PV} (r : RpL F ts ps) : ∀ n,RpL F (List.replicate n ts).flatten (List.replicate n ps).flatten
 | 0 => .nil
 | n + 1 => by
  rw [List.replicate_succ,List.replicate_succ,List.flatten_cons,List.flatten_cons]
  exact r.app (RpL.rep r n)
def aV : List (Key × PV) -> Key -> Option PV
 | [],_ => none
 | (j,p) :: r,k => if j = k then some p else aV r k
def eF (kvs : List (Key × PV)) (k : Key) (v : PV) : List (Key × PV) :=
 if (kvs.any fun kv => decide (kv.1 = k)) = true then kvs.map (fun kv => if kv.1 = k then (kv.1,v) else kv) else kvs ++ [(k,v)]
theorem RpD.look {F : Gp} {k : Key} : ∀ {ts : List (T × T)} {ps : List (Key × PV)},RpD F ts ps -> (aP ts (kT k) = none /\ aV ps k = none) \/ ∃ t p,aP ts (kT k) = some t /\ aV ps k = some p /\ Rp F t p
 | _,_,.nil => .inl ⟨rfl,rfl⟩
 | _, _, .cons (k := j) (p := v) (t := t) (ts := r) (ps := u) h rs => by
  by_cases e : j = k
  . subst e
    exact .inr ⟨t,v,by simp [aP],by simp [aV],h⟩
  . have e' : ¬ kT j = kT k:=fun z => e (jt z)
    rcases RpD.look (k:=k) rs with ⟨h1,h2⟩ | ⟨t',v',h1,h2,h3⟩
    . exact .inl ⟨by simp [aP,e',h1],by simpa [aV,e] using h2⟩
    . exact .inr ⟨t',v',by simp [aP,e',h1],by simpa [aV,e] using h2,h3⟩
theorem RpD.any {F : Gp} (k : Key) : ∀ {ts : List (T × T)} {ps : List (Key × PV)},RpD F ts ps -> (ts.any fun kv => decide (kv.1 = kT k)) = (ps.any fun kv => decide (kv.1 = k))
 | _,_,.nil => rfl
 | _, _, .cons (k := j) _ r => by
  rw [List.any_cons,List.any_cons,RpD.any k r]
  congr 1
  by_cases e : j = k
  . subst e; simp
  . have e' : ¬ kT j = kT k:=fun z => e (jt z)
    simp [e,e']
theorem RpD.mapPut {F : Gp} (k : Key) {t : T} {p : PV} (h : Rp F t p) : ∀ {ts : List (T × T)} {ps : List (Key × PV)},RpD F ts ps ->
    RpD F (ts.map fun kv => if kv.1 = kT k then (kv.1,t) else kv) (ps.map fun kv => if kv.1 = k then (kv.1,p) else kv)
 | _,_,.nil => .nil
 | _, _, .cons (k := j) hr r => by
  rw [List.map_cons,List.map_cons]
  by_cases e : j = k
  . subst e
    rw [if_pos rfl,if_pos rfl]
    exact .cons h (RpD.mapPut _ h r)
  . have e' : ¬ kT j = kT k:=fun z => e (jt z)
    rw [if_neg e,if_neg e']
    exact .cons hr (RpD.mapPut _ h r)
theorem RpD.app {F : Gp} : ∀ {ts us : List (T × T)} {ps qs : List (Key × PV)},RpD F ts ps -> RpD F us qs -> RpD F (ts ++ us) (ps ++ qs)
 | _,_,_,_,.nil,s => s
 | _,_,_,_,.cons r t,s => .cons r (RpD.app t s)
theorem RpD.put {F : Gp} {k : Key} {t : T} {p : PV} {ts : List (T × T)} {ps : List (Key × PV)} (r : RpD F ts ps) (h : Rp F t p) : RpD F (dput ts (kT k) t) (eF ps k p):=by
 unfold dput eF
 rw [r.any k]
 split
 . exact r.mapPut k h
 . exact r.app (.cons h .nil)
theorem RpD.keys {F : Gp} : ∀ {ts : List (T × T)} {ps : List (Key × PV)},RpD F ts ps -> ts.map (·.1) = ps.map fun kv => kT kv.1
 | _,_,.nil => rfl
 | _,_,.cons _ r => by simp [RpD.keys r]
def kP : Key -> PV
 | .inl i => .int i
 | .inr x => .str x
def dU : PV -> Option Key
 | .int i => some (.inl i)
 | .str s => some (.inr s)
 | _ => none
theorem xJ {F : Gp} : ∀ k : Key,Rp F (kT k) (kP k)
 | .inl i => .int i
 | .inr x => .str x
theorem lT {F : Gp} {t : T} {p : PV} {k : Key} (r : Rp F t p) (h : dU p = some k) : t = kT k /\ bK t = some k:=by
 cases p <;> simp only [dU,reduceCtorEq,Option.some.injEq] at h <;> subst h <;> cases r <;> exact ⟨rfl,rfl⟩
theorem RpD.keysL {F : Gp} : ∀ {ts : List (T × T)} {ps : List (Key × PV)},RpD F ts ps -> RpL F (ts.map (·.1)) (ps.map fun kv => kP kv.1)
 | _,_,.nil => .nil
 | _,_,.cons (k:=k) _ r => .cons (xJ k) (RpD.keysL r)
theorem RpF.look {F : Gp} {f : Str} : ∀ {ts : List (Str × T)} {ps : List (Str × PV)},RpF F ts ps -> (ts.lookup f = none /\ ps.lookup f = none) \/ ∃ t p,ts.lookup f = some t /\ ps.lookup f = some p /\ Rp F t p
 | _,_,.nil => .inl ⟨rfl,rfl⟩
 | _, _, .cons (k := j) (p := v) (t := t) (ts := r) (ps := u) h rs => by
  by_cases e : f = j
  . subst e
    exact .inr ⟨t,v,by simp,by simp,h⟩
  . have e' : (f == j) = false:=beq_eq_false_iff_ne.mpr e
    rcases RpF.look (f:=f) rs with ⟨h1,h2⟩ | ⟨t',v',h1,h2,h3⟩
    . exact .inl ⟨by rw [List.lookup_cons,e']; exact h1,by rw [List.lookup_cons,e']; exact h2⟩
    . exact .inr ⟨t',v',by rw [List.lookup_cons,e']; exact h1,by rw [List.lookup_cons,e']; exact h2,h3⟩
def aB : Gp:=fun _ => none
def one (a : Addr) (o : O) : Gp:=fun b => if b = a then some o else none
theorem bL {a : Addr} {o : O} : one a o a = some o:=by unfold one; simp
theorem gq {a b : Addr} {o u : O} (h : one a o b = some u) : b = a /\ u = o:=by
 unfold one at h
 split at h
 . exact ⟨by assumption,(Option.some.inj h).symm⟩
 . cases h
theorem fP {a b : Addr} {o : O} (h : one a o b ≠ none) : b = a:=by
 unfold one at h
 split at h
 . assumption
 . exact absurd rfl h
def Ow (F H : Gp) (t : T) : PV -> Prop
 | .lst ps => ∃ a ts,t = .ref a /\ H = one a (.lst ts) /\ RpL F ts ps
 | .dic ps => ∃ a ts,t = .ref a /\ H = one a (.dic ts) /\ RpD F ts ps
 | .ins C ps => ∃ a ts,t = .ref a /\ H = one a (.ins C ts) /\ RpF F ts ps
 | .dicN ps => ∃ a ts,t = .ref a /\ H = one a (.dicN ts) /\ RpN F ts ps
 | _ => False
theorem Ow.sub {F F' H : Gp} {t : T} {p : PV} (r : Ow F H t p) (s : Sub F F') : Ow F' H t p:=by
 cases p with
 | lst ps => obtain ⟨a,ts,h1,h2,h3⟩:=r; exact ⟨a,ts,h1,h2,h3.sub s⟩
 | dic ps => obtain ⟨a,ts,h1,h2,h3⟩:=r; exact ⟨a,ts,h1,h2,h3.sub s⟩
 | ins C ps => obtain ⟨a,ts,h1,h2,h3⟩:=r; exact ⟨a,ts,h1,h2,h3.sub s⟩
 | dicN ps => obtain ⟨a,ts,h1,h2,h3⟩:=r; exact ⟨a,ts,h1,h2,h3.sub s⟩
 | _ => exact r.elim
def aU (F H : Gp) : Gp:=fun a => match F a with
 | some o => some o
 | none => H a
theorem cV {F H : Gp} : Sub F (aU F H):=fun a o h => by unfold aU; rw [h]
theorem jd {F H : Gp} {a : Addr} (h : H a ≠ none -> F a = none) {o : O} (e : H a = some o) : aU F H a = some o:=by
 unfold aU; rw [h (by rw [e]; simp)]; exact e
theorem gS {F H : Gp} {a : Addr} {o : O} (h : aU F H a = some o) : F a = some o \/ H a = some o:=by
 unfold aU at h
 split at h
 . rename_i e; rw [e]; exact .inl h
 . exact .inr h
theorem wC {F H : Gp} {a : Addr} (h : aU F H a ≠ none) : F a ≠ none \/ H a ≠ none:=by
 unfold aU at h
 split at h
 . rename_i e; rw [e]; exact .inl h
 . exact .inr h
theorem Ow.frz {F H : Gp} {t : T} {p : PV} (r : Ow F H t p) (d : ∀ a,H a ≠ none -> F a = none) : Rp (aU F H) t p:=by
 cases p with
 | lst ps => obtain ⟨a,ts,rfl,rfl,h3⟩:=r; exact .lst (jd (d a) bL) (h3.sub cV)
 | dic ps => obtain ⟨a,ts,rfl,rfl,h3⟩:=r; exact .dic (by unfold aG; rw [jd (d a) bL]) (h3.sub cV)
 | ins C ps => obtain ⟨a,ts,rfl,rfl,h3⟩:=r; exact .ins (jd (d a) bL) (h3.sub cV)
 | dicN ps => obtain ⟨a,ts,rfl,rfl,h3⟩:=r; exact .dicN (by unfold eI; rw [jd (d a) bL]) (h3.sub cV)
 | _ => exact r.elim
def bu (F H : Gp) (t : T) : Cell -> Prop
 | .fr p => Rp F t p
 | .ow p => Ow F H t p
 | .ab R => R H t
 | .af R => ∃ F0,Le F0 F /\ R F0 H t
theorem bu.sub {F F' H : Gp} {t : T} {c : Cell} (r : bu F H t c) (s : Sub F F') : bu F' H t c:=by
 cases c with
 | fr p => exact Rp.sub r s
 | ow p => exact Ow.sub r s
 | ab R => exact r
 | af R => obtain ⟨F0,s0,h⟩:=r; exact ⟨F0,s0.trans (.of s),h⟩
structure Io where
 l : List Nat
 b : Option (S2 × Gp × Gp):=none
instance : Coe (List Nat) Io:=⟨fun l => ⟨l,none⟩⟩
instance : Membership Nat Io:=⟨fun io i => i ∈ io.l⟩
theorem mq {j : Nat} {l : List Nat} {b : Option (S2 × Gp × Gp)} (h : j ∉ l) : j ∉ (⟨l,b⟩ : Io):=h
theorem pF {us : List Nat} {l : List Nat} {b : Option (S2 × Gp × Gp)} (h : ∀ j ∈ us,j ∉ l) : ∀ j ∈ us,j ∉ (⟨l,b⟩ : Io):=h
instance {i : Nat} {io : Io} : Decidable (i ∈ io):=inferInstanceAs (Decidable (i ∈ io.l))
def Io.Ok (io : Io) (S0 : S2) (Fr F : Gp) : Prop:=∀ s fr f,io.b = some (s,fr,f) -> S0 = s /\ Sub fr Fr /\ Sub f F
theorem Io.ok0 {l : List Nat} {S0 : S2} {Fr F : Gp} : Io.Ok (⟨l,none⟩ : Io) S0 Fr F:=fun _ _ _ h => by cases h
theorem Io.Ok.up {io : Io} {S0 : S2} {Fr F F' : Gp} (h : io.Ok S0 Fr F) (s : Sub F F') : io.Ok S0 Fr F':=fun a b c e => let ⟨h1,h2,h3⟩:=h a b c e; ⟨h1,h2,h3.trans s⟩
theorem Io.Ok.fr {io : Io} {S0 : S2} {Fr Fr' F : Gp} (h : io.Ok S0 Fr F) (s : Sub Fr Fr') : io.Ok S0 Fr' F:=fun a b c e => let ⟨h1,h2,h3⟩:=h a b c e; ⟨h1,h2.trans s,h3⟩
structure Fx where
 N : Nat
 io : Io
 S0 : S2
 Fr : Gp
structure VRel (fx : Fx) (F : Gp) (own : Nat -> Gp) (S : S2) (G : Gp) (σ : SV) : Prop where
 len : S.length = fx.N
 pin : ∀ i ∈ fx.io,S[i]? = fx.S0[i]?
 sub : Sub F G
 frs : Sub fx.Fr G
 frF : ∀ a,F a ≠ none -> fx.Fr a = none
 owG : ∀ i,Sub (own i) G
 owF : ∀ i a,own i a ≠ none -> F a = none /\ fx.Fr a = none
 dis : ∀ i j a,i ≠ j -> own i a ≠ none -> own j a = none
 cell : ∀ i c,σ i = some c -> ∃ t,S[i]? = some (some t) /\ bu F (own i) t c
 px : fx.io.Ok fx.S0 fx.Fr F
structure Tmp (fx : Fx) (F : Gp) (own : Nat -> Gp) (G H : Gp) : Prop where
 sub : Sub H G
 dF : ∀ a,H a ≠ none -> F a = none /\ fx.Fr a = none
 dO : ∀ a i,H a ≠ none -> own i a = none
structure Ext (F F' : Gp) : Prop where
 sub : Sub F F'
theorem Ext.refl {F : Gp} : Ext F F:=⟨Sub.refl F⟩
theorem Ext.trans {F F1 F2 : Gp} (a : Ext F F1) (b : Ext F1 F2) : Ext F F2:=⟨a.sub.trans b.sub⟩
def ec (own : Nat -> Gp) (j : Nat) (H : Gp) : Nat -> Gp:=fun i => if i = j then H else own i
theorem bC {own : Nat -> Gp} {j : Nat} {H : Gp} : ec own j H j = H:=by unfold ec; simp
theorem bf {own : Nat -> Gp} {j i : Nat} {H : Gp} (h : i ≠ j) : ec own j H i = own i:=by unfold ec; simp [h]
theorem Tmp.nil {fx : Fx} {F : Gp} {own : Nat -> Gp} {G : Gp} : Tmp fx F own G aB:=⟨fun a o h => (by cases h),fun a h => absurd rfl h,fun a i h => absurd rfl h⟩
section
variable {fx : Fx} {F G : Gp} {own : Nat -> Gp} {S : S2} {σ : SV}
theorem VRel.lt (g : VRel fx F own S G σ) {i : Nat} {c : Cell} (h : σ i = some c) : i < fx.N:=by
 obtain ⟨t,e,_⟩:=g.cell i c h
 rw [<- g.len]
 rcases Nat.lt_or_ge i S.length with h | h
 . exact h
 . rw [List.getElem?_eq_none h] at e; cases e
theorem VRel.less (g : VRel fx F own S G σ) {σ' : SV} (h : ∀ i c,σ' i = some c -> σ i = some c) : VRel fx F own S G σ' :=
 ⟨g.len,g.pin,g.sub,g.frs,g.frF,g.owG,g.owF,g.dis,fun i c e => g.cell i c (h i c e),g.px⟩
theorem VRel.frzT (g : VRel fx F own S G σ) {H : Gp} (m : Tmp fx F own G H) : VRel fx (aU F H) own S G σ /\ Ext F (aU F H):=by
 refine ⟨⟨g.len,g.pin,fun a o e => ?_,g.frs,fun a e => ?_,g.owG,fun i a e => ?_,g.dis,fun i c e => ?_,g.px.up cV⟩,⟨cV⟩⟩
 . rcases gS e with e | e
   . exact g.sub _ _ e
   . exact m.sub _ _ e
 . rcases wC e with e | e
   . exact g.frF a e
   . exact (m.dF a e).2
 . refine ⟨?_,(g.owF i a e).2⟩
   cases z : aU F H a with
   | none => rfl
   | some o =>
    rcases gS z with z | z
    . rw [(g.owF i a e).1] at z; cases z
    . exact absurd (m.dO a i (by rw [z]; simp)) e
 . obtain ⟨t,h1,h2⟩:=g.cell i c e
   exact ⟨t,h1,h2.sub cV⟩
theorem VRel.frz (g : VRel fx F own S G σ) {i : Nat} {p : PV} (h : σ i = some (.ow p)) :
 ∃ F' own',VRel fx F' own' S G (ac σ i (some (.fr p))) /\ Ext F F' /\ ∀ t,S[i]? = some (some t) -> Rp F' t p:=by
 have hd : ∀ a,own i a ≠ none -> F a = none:=fun a e => (g.owF i a e).1
 obtain ⟨t,h1,h2⟩:=g.cell i _ h
 have hr:=Ow.frz h2 hd
 refine ⟨aU F (own i),ec own i aB,⟨g.len,g.pin,fun a o e => ?_,g.frs,fun a e => ?_,fun j a o e => ?_,fun j a e => ?_,fun j k a hjk e => ?_,fun j c e => ?_,g.px.up cV⟩,⟨cV⟩,fun t' e => ?_⟩
 . rcases gS e with e | e
   . exact g.sub _ _ e
   . exact g.owG i _ _ e
 . rcases wC e with e | e
   . exact g.frF a e
   . exact (g.owF i a e).2
 . by_cases z : j = i
   . subst z; rw [bC] at e; cases e
   . rw [bf z] at e; exact g.owG j _ _ e
 . by_cases z : j = i
   . subst z; rw [bC] at e; exact absurd rfl e
   . rw [bf z] at e
     refine ⟨?_,(g.owF j a e).2⟩
     cases y : aU F (own i) a with
     | none => rfl
     | some o =>
      rcases gS y with y | y
      . rw [(g.owF j a e).1] at y; cases y
      . rw [g.dis j i a z e] at y; cases y
 . by_cases z : j = i
   . subst z; rw [bC] at e; exact absurd rfl e
   . rw [bf z] at e
     by_cases y : k = i
     . subst y; rw [bC]; rfl
     . rw [bf y]; exact g.dis j k a hjk e
 . by_cases z : j = i
   . subst z
     rw [cf,if_pos rfl] at e
     cases e
     exact ⟨t,h1,hr⟩
   . rw [cf,if_neg z] at e
     obtain ⟨u,e1,e2⟩:=g.cell j c e
     rw [bf z]
     exact ⟨u,e1,e2.sub cV⟩
 . rw [h1] at e
   cases e
   exact hr
theorem VRel.put (g : VRel fx F own S G σ) {H : Gp} (m : Tmp fx F own G H) {j : Nat} {t : T} {c : Cell} (hj : j < fx.N) (hio : j ∉ fx.io) (r : bu F H t c) :
    VRel fx F (ec own j H) (S.set j (some t)) G (ac σ j (some c)):=by
 refine ⟨by rw [List.length_set]; exact g.len,fun i hi => ?_,g.sub,g.frs,g.frF,fun i a o e => ?_,fun i a e => ?_,fun i k a hik e => ?_,fun i d e => ?_,g.px⟩
 . rw [List.getElem?_set_ne (fun z => hio (by rw [z]; exact hi))]; exact g.pin i hi
 . by_cases z : i = j
   . subst z; rw [bC] at e; exact m.sub _ _ e
   . rw [bf z] at e; exact g.owG i _ _ e
 . by_cases z : i = j
   . subst z; rw [bC] at e; exact m.dF a e
   . rw [bf z] at e; exact g.owF i a e
 . by_cases z : i = j
   . subst z
     rw [bC] at e
     rw [bf (fun y => hik y.symm)]
     exact m.dO a k e
   . rw [bf z] at e
     by_cases y : k = j
     . subst y
       rw [bC]
       cases q : H a with
       | none => rfl
       | some o => exact absurd (m.dO a i (by rw [q]; simp)) e
     . rw [bf y]; exact g.dis i k a hik e
 . by_cases z : i = j
   . subst z
     rw [cf,if_pos rfl] at e
     cases e
     rw [bC]
     exact ⟨t,List.getElem?_set_self (by rw [g.len]; exact hj),r⟩
   . rw [cf,if_neg z] at e
     rw [bf z,List.getElem?_set_ne (fun y => z y.symm)]
     exact g.cell i d e
theorem VRel.del (g : VRel fx F own S G σ) {j : Nat} (hio : j ∉ fx.io) : VRel fx F own (S.set j none) G (ac σ j none):=by
 refine ⟨by rw [List.length_set]; exact g.len,fun i hi => ?_,g.sub,g.frs,g.frF,g.owG,g.owF,g.dis,fun i d e => ?_,g.px⟩
 . rw [List.getElem?_set_ne (fun z => hio (by rw [z]; exact hi))]; exact g.pin i hi
 . by_cases z : i = j
   . subst z; rw [cf,if_pos rfl] at e; cases e
   . rw [cf,if_neg z] at e
     rw [List.getElem?_set_ne (fun y => z y.symm)]
     exact g.cell i d e
theorem VRel.mut (g : VRel fx F own S G σ) {i : Nat} {a : Addr} {o o' : O} {c : Cell} (h : own i = one a o) (r : ∃ t,S[i]? = some (some t) /\ bu F (one a o') t c) :
 ∃ own',VRel fx F own' S (gup G a o') (ac σ i (some c)) /\ Ext F F:=by
 have hlt : i < fx.N:=by
  obtain ⟨t,e,_⟩:=r
  rw [<- g.len]
  rcases Nat.lt_or_ge i S.length with h | h
  . exact h
  . rw [List.getElem?_eq_none h] at e; cases e
 have hi : own i a ≠ none:=by rw [h,bL]; simp
 have ha:=g.owF i a hi
 have up : ∀ {M : Gp},M a = none -> Sub M G -> Sub M (gup G a o'):=fun hm s b u e => by
  rw [ao (fun z => by rw [z,hm] at e; cases e)]
  exact s b u e
 refine ⟨ec own i (one a o'),⟨g.len,g.pin,up ha.1 g.sub,up ha.2 g.frs,g.frF,fun j => ?_,fun j b e => ?_,fun j k b hjk e => ?_,fun j d e => ?_,g.px⟩,⟨Sub.refl F⟩⟩
 . by_cases z : j = i
   . subst z
     rw [bC]
     intro b u e
     obtain ⟨rfl,rfl⟩:=gq e
     exact aH
   . rw [bf z]; exact up (g.dis i j a (fun y => z y.symm) hi) (g.owG j)
 . by_cases z : j = i
   . subst z
     rw [bC] at e
     have:=fP e
     subst this
     exact ha
   . rw [bf z] at e; exact g.owF j b e
 . by_cases z : j = i
   . subst z
     rw [bC] at e
     have:=fP e
     subst this
     rw [bf (fun y => hjk y.symm)]
     exact g.dis j k b hjk hi
   . rw [bf z] at e
     by_cases y : k = i
     . subst y
       rw [bC]
       cases q : one a o' b with
       | none => rfl
       | some u =>
        obtain ⟨rfl,_⟩:=gq q
        rw [g.dis k j b (fun y => z y.symm) hi] at e
        exact absurd rfl e
     . rw [bf y]; exact g.dis j k b hjk e
 . by_cases z : j = i
   . subst z
     rw [cf,if_pos rfl] at e
     cases e
     rw [bC]
     exact r
   . rw [cf,if_neg z] at e
     rw [bf z]
     exact g.cell j d e
theorem VRel.hold (g : VRel fx F own S G σ) {H : Gp} (m : Tmp fx F own G H) : VRel { fx with Fr:=aU fx.Fr H } F own S G σ:=by
 refine ⟨g.len,g.pin,g.sub,fun a o e => ?_,fun a e => ?_,g.owG,fun i a e => ⟨(g.owF i a e).1,?_⟩,g.dis,g.cell,g.px.fr cV⟩
 . rcases gS e with e | e
   . exact g.frs _ _ e
   . exact m.sub _ _ e
 . cases z : aU fx.Fr H a with
   | none => exact z
   | some o =>
    rcases gS z with z | z
    . rw [g.frF a e] at z; cases z
    . exact absurd (m.dF a (by rw [z]; simp)).1 e
 . cases z : aU fx.Fr H a with
   | none => exact z
   | some o =>
    rcases gS z with z | z
    . rw [(g.owF i a e).2] at z; cases z
    . exact absurd (m.dO a i (by rw [z]; simp)) e
theorem VRel.unhold {H : Gp} (g : VRel { fx with Fr:=aU fx.Fr H } F own S G σ) (d : ∀ a,H a ≠ none -> fx.Fr a = none) (px : fx.io.Ok fx.S0 fx.Fr F) : VRel fx F own S G σ /\ Tmp fx F own G H:=by
 have hU : ∀ a o,H a = some o -> aU fx.Fr H a = some o:=fun a o e => jd (d a) e
 have no : ∀ a,aU fx.Fr H a = none -> fx.Fr a = none:=fun a e => by
  cases z : fx.Fr a with
  | none => rfl
  | some o => rw [cV _ _ z] at e; cases e
 refine ⟨⟨g.len,g.pin,g.sub,cV.trans g.frs,fun a e => no a (g.frF a e),g.owG,fun i a e => ⟨(g.owF i a e).1,no a (g.owF i a e).2⟩,g.dis,g.cell,px⟩,⟨fun a o e => g.frs _ _ (hU a o e),fun a e => ⟨?_,d a e⟩,fun a i e => ?_⟩⟩
 . obtain ⟨o,z⟩:=Option.ne_none_iff_exists'.mp e
   cases y : F a with
   | none => rfl
   | some u => have:=g.frF a (by rw [y]; simp); rw [show ({ fx with Fr:=aU fx.Fr H } : Fx).Fr a = aU fx.Fr H a from rfl,hU a o z] at this; cases this
 . obtain ⟨o,z⟩:=Option.ne_none_iff_exists'.mp e
   cases y : own i a with
   | none => rfl
   | some u => have:=(g.owF i a (by rw [y]; simp)).2; rw [show ({ fx with Fr:=aU fx.Fr H } : Fx).Fr a = aU fx.Fr H a from rfl,hU a o z] at this; cases this
structure Fresh (G H G' : Gp) : Prop where
 or : (G' = G /\ H = aB) \/ ∃ a o,G a = none /\ G' = gup G a o /\ H = one a o
theorem Fresh.no : Fresh G aB G:=⟨.inl ⟨rfl,rfl⟩⟩
theorem Fresh.new {a : Addr} {o : O} (h : G a = none) : Fresh G (one a o) (gup G a o):=⟨.inr ⟨a,o,h,rfl,rfl⟩⟩
theorem VRel.fresh (g : VRel fx F own S G σ) {H G' : Gp} (f : Fresh G H G') : VRel fx F own S G' σ /\ Tmp fx F own G' H:=by
 rcases f.or with ⟨rfl,rfl⟩ | ⟨a,o,h,rfl,rfl⟩
 . exact ⟨g,Tmp.nil⟩
 . have no : ∀ {M : Gp},Sub M G -> M a = none:=fun {M} s => by
     cases e : M a with
     | none => rfl
     | some u => have:=s _ _ e; rw [h] at this; cases this
   refine ⟨⟨g.len,g.pin,g.sub.trans (Sub.gup h),g.frs.trans (Sub.gup h),g.frF,fun i => (g.owG i).trans (Sub.gup h),g.owF,g.dis,g.cell,g.px⟩,⟨fun b u e => ?_,fun b e => ?_,fun b i e => ?_⟩⟩
   . obtain ⟨rfl,rfl⟩:=gq e; exact aH
   . have:=fP e; subst this; exact ⟨no g.sub,no g.frs⟩
   . have:=fP e; subst this; exact no (g.owG i)
end
def cF (F G : Gp) (t : T) : PV -> Prop
 | .non => t = .non
 | .bl b => t = .bl b
 | .int i => t = .int i
 | .str x => t = .str x
 | .ty n => t = .ty n
 | .tup ps => ∃ ts,t = .tup ts /\ RpL F ts ps
 | .lst ps => ∃ a ts,t = .ref a /\ G a = some (.lst ts) /\ RpL F ts ps
 | .dic ps => ∃ a ts,t = .ref a /\ aG G a = some ts /\ RpD F ts ps
 | .ins C ps => ∃ a ts,t = .ref a /\ G a = some (.ins C ts) /\ RpF F ts ps
 | .exc C ns ps => ∃ ts,t = .exc C ns ts /\ RpL F ts ps
 | .lam L => t = .lam L
 | .dicN ps => ∃ a ts,t = .ref a /\ eI G a = some ts /\ RpN F ts ps
theorem Rp.rd {F G : Gp} {t : T} {p : PV} (r : Rp F t p) (s : Sub F G) : cF F G t p:=by
 cases r with
 | non => exact rfl
 | bl b => exact rfl
 | int i => exact rfl
 | str x => exact rfl
 | ty n => exact rfl
 | tup r => exact ⟨_,rfl,r⟩
 | lst h r => exact ⟨_,_,rfl,s _ _ h,r⟩
 | dic h r => exact ⟨_,_,rfl,(Le.of s).dic _ _ h,r⟩
 | ins h r => exact ⟨_,_,rfl,s _ _ h,r⟩
 | exc r => exact ⟨_,rfl,r⟩
 | lam L => exact rfl
 | dicN h r => exact ⟨_,_,rfl,(Le.of s).dicN _ _ h,r⟩
theorem Ow.rd {F H G : Gp} {t : T} {p : PV} (r : Ow F H t p) (s : Sub H G) : cF F G t p:=by
 cases p with
 | lst ps => obtain ⟨a,ts,rfl,rfl,h3⟩:=r; exact ⟨a,ts,rfl,s _ _ bL,h3⟩
 | dic ps => obtain ⟨a,ts,rfl,rfl,h3⟩:=r; exact ⟨a,ts,rfl,by unfold aG; rw [s _ _ bL],h3⟩
 | ins C ps => obtain ⟨a,ts,rfl,rfl,h3⟩:=r; exact ⟨a,ts,rfl,s _ _ bL,h3⟩
 | dicN ps => obtain ⟨a,ts,rfl,rfl,h3⟩:=r; exact ⟨a,ts,rfl,by unfold eI; rw [s _ _ bL],h3⟩
 | _ => exact r.elim
theorem cF.rp {F G : Gp} {t : T} {p : PV} (r : cF F G t p) (s : Sub F G) : Rp G t p:=by
 cases p with
 | non => cases r; exact .non
 | bl b => cases r; exact .bl b
 | int i => cases r; exact .int i
 | str x => cases r; exact .str x
 | ty n => cases r; exact .ty n
 | tup ps => obtain ⟨ts,rfl,h⟩:=r; exact .tup (h.sub s)
 | lst ps => obtain ⟨a,ts,rfl,h,h3⟩:=r; exact .lst h (h3.sub s)
 | dic ps => obtain ⟨a,ts,rfl,h,h3⟩:=r; exact .dic h (h3.sub s)
 | ins C ps => obtain ⟨a,ts,rfl,h,h3⟩:=r; exact .ins h (h3.sub s)
 | exc C ns ps => obtain ⟨ts,rfl,h3⟩:=r; exact .exc (h3.sub s)
 | lam L => cases r; exact .lam L
 | dicN ps => obtain ⟨a,ts,rfl,h,h3⟩:=r; exact .dicN h (h3.sub s)
def rd (σ : SV) : RV -> Option PV
 | .v (.fr p) => some p
 | .v (.ow p) => some p
 | .v (.ab _) => none
 | .v (.af _) => none
 | .sl i => match σ i with
  | some (.fr p) => some p
  | some (.ow p) => some p
  | _ => none
def giv (σ : SV) : RV -> Option (Cell × SV)
 | .v c => some (c,σ)
 | .sl i => match σ i with
  | some (.fr p) => some (.fr p,σ)
  | some (.ow p) => some (.fr p,ac σ i (some (.fr p)))
  | _ => none
def du (fx : Fx) (F : Gp) (own : Nat -> Gp) (S : S2) (G : Gp) (t : T) : RV -> Prop
 | .v c => ∃ H,bu F H t c /\ Tmp fx F own G H
 | .sl i => S[i]? = some (some t)
def fz : RV -> Option RV
 | .v (.fr p) => some (.v (.fr p))
 | .v (.ow p) => some (.v (.fr p))
 | .v (.ab _) => none
 | .v (.af _) => none
 | .sl i => some (.sl i)
def gM (F : Gp) (S : S2) (t : T) : RV -> Prop
 | .v (.fr p) => Rp F t p
 | .v _ => False
 | .sl i => S[i]? = some (some t)
def cu (F : Gp) (S : S2) : List T -> List RV -> Prop
 | [],[] => True
 | t :: ts,r :: rs => gM F S t r /\ cu F S ts rs
 | _,_ => False
theorem gM.sub {F F' : Gp} {S : S2} {t : T} {r : RV} (h : gM F S t r) (s : Sub F F') : gM F' S t r:=by
 cases r with
 | v c =>
  cases c with
  | fr p => exact Rp.sub h s
  | _ => exact h.elim
 | sl i => exact h
section
variable {fx : Fx} {F G : Gp} {own : Nat -> Gp} {S : S2} {σ : SV} {t : T}
theorem VRel.fz (g : VRel fx F own S G σ) {r r' : RV} (h : du fx F own S G t r) (e : fz r = some r') : ∃ F',VRel fx F' own S G σ /\ Ext F F' /\ gM F' S t r':=by
 cases r with
 | v c =>
  obtain ⟨H,h1,h2⟩:=h
  cases c with
  | fr p => cases e; exact ⟨F,g,.refl,h1⟩
  | ow p =>
   cases e
   obtain ⟨g',x⟩:=g.frzT h2
   exact ⟨_,g',x,Ow.frz h1 fun a z => (h2.dF a z).1⟩
  | ab R => cases e
  | af R => cases e
 | sl i => cases e; exact ⟨F,g,.refl,h⟩
theorem VRel.rdA (g : VRel fx F own S G σ) {r : RV} {p : PV} (h : gM F S t r) (e : rd σ r = some p) : cF F G t p:=by
 cases r with
 | v c =>
  cases c with
  | fr q => cases e; exact Rp.rd h g.sub
  | _ => exact h.elim
 | sl i =>
  have h : S[i]? = some (some t):=h
  simp only [rd] at e
  split at e
  . rename_i q e1
    cases e
    obtain ⟨u,h1,h2⟩:=g.cell i _ e1
    rw [h] at h1
    cases h1
    exact Rp.rd h2 g.sub
  . rename_i q e1
    cases e
    obtain ⟨u,h1,h2⟩:=g.cell i _ e1
    rw [h] at h1
    cases h1
    exact Ow.rd h2 (g.owG i)
  . cases e
theorem VRel.rdV (g : VRel fx F own S G σ) {r : RV} {p : PV} (h : du fx F own S G t r) (e : rd σ r = some p) : cF F G t p:=by
 cases r with
 | v c =>
  obtain ⟨H,h1,h2⟩:=h
  cases c with
  | fr q => cases e; exact Rp.rd h1 g.sub
  | ow q => cases e; exact Ow.rd h1 h2.sub
  | ab R => cases e
  | af R => cases e
 | sl i => exact g.rdA (r:=.sl i) h e
theorem VRel.giv (g : VRel fx F own S G σ) {r : RV} {c : Cell} {σ' : SV} (h : du fx F own S G t r) (e : giv σ r = some (c,σ')) : ∃ F' own' H,VRel fx F' own' S G σ' /\ Ext F F' /\ bu F' H t c /\ Tmp fx F' own' G H:=by
 cases r with
 | v d =>
  obtain ⟨H,h1,h2⟩:=h
  cases e
  exact ⟨F,own,H,g,.refl,h1,h2⟩
 | sl i =>
  have h : S[i]? = some (some t):=h
  simp only [Vl.giv] at e
  split at e
  . rename_i q e1
    cases e
    obtain ⟨u,h1,h2⟩:=g.cell i _ e1
    rw [h] at h1
    cases h1
    exact ⟨F,own,aB,g,.refl,h2,.nil⟩
  . rename_i q e1
    cases e
    obtain ⟨F',own',g',x,k⟩:=g.frz e1
    exact ⟨F',own',aB,g',x,k t h,.nil⟩
  . cases e
end
def tk (σ : SV) (r : RV) : Option (PV × SV):=match giv σ r with
 | some (.fr p,σ') => some (p,σ')
 | some (.ow p,σ') => some (p,σ')
 | _ => none
theorem VRel.tk {fx : Fx} {F G : Gp} {own : Nat -> Gp} {S : S2} {σ : SV} {t : T} (g : VRel fx F own S G σ) {r : RV} {p : PV} {σ' : SV} (h : du fx F own S G t r) (e : tk σ r = some (p,σ')) : ∃ F' own',VRel fx F' own' S G σ' /\ Ext F F' /\ Rp F' t p:=by
 unfold Vl.tk at e
 split at e
 . rename_i q σ1 e1
   cases e
   obtain ⟨F',own',H,g',x,h1,h2⟩:=g.giv h e1
   exact ⟨F',own',g',x,h1⟩
 . rename_i q σ1 e1
   cases e
   obtain ⟨F',own',H,g',x,h1,h2⟩:=g.giv h e1
   obtain ⟨g2,x2⟩:=g'.frzT h2
   exact ⟨_,own',g2,x.trans x2,Ow.frz h1 fun a z => (h2.dF a z).1⟩
 . cases e
end Vl
noncomputable section
namespace Vl
open PySem L2 Dv
variable [Dv.Wld]
noncomputable instance : DecidableEq PV:=fun a b => Classical.propDecidable (a = b)
abbrev VE:=SV -> (RV -> SV -> Prop) -> Prop
abbrev VT:=SV -> (Bool -> SV -> Prop) -> Prop
abbrev VA:=SV -> (List RV -> SV -> Prop) -> Prop
structure Fq where
 S0 : S2
 Fr : Gp
def ak (N : Nat) (io : Io) (w : Fq) : Fx:=⟨N,io,w.S0,w.Fr⟩
def bJ (N : Nat) (io : Io) (ve : VE) : LE:=fun S G Φ => ∃ w F own σ Ψ,VRel (ak N io w) F own S G σ /\ ve σ Ψ /\ ∀ r σ' F' own' G' t,Ψ r σ' -> Ext F F' -> VRel (ak N io w) F' own' S G' σ' -> du (ak N io w) F' own' S G' t r -> Φ t G'
def d3 (N : Nat) (io : Io) (vt : VT) : LT:=fun S G Φ => ∃ w F own σ Ψ,VRel (ak N io w) F own S G σ /\ vt σ Ψ /\ ∀ b σ' F' own' G',Ψ b σ' -> Ext F F' -> VRel (ak N io w) F' own' S G' σ' -> Φ b G'
def jN (N : Nat) (io : Io) (va : VA) : LA:=fun S G Φ => ∃ w F own σ Ψ,VRel (ak N io w) F own S G σ /\ va σ Ψ /\ ∀ rs σ' F' own' G' ts,Ψ rs σ' -> Ext F F' -> VRel (ak N io w) F' own' S G' σ' -> cu F' S ts rs -> Φ ts G'
def Ev (en : En) (X : Cx) (io : Io) (e : Expr) (ve : VE) : Prop:=E en X e (bJ X.N.length io ve)
def dS (en : En) (X : Cx) (io : Io) (e : Expr) (ve : VT) : Prop:=Et en X e (d3 X.N.length io ve)
def jz (en : En) (X : Cx) (io : Io) (e : Expr) (ve : VT) : Prop:=Ew en X e (d3 X.N.length io ve)
def dM (en : En) (X : Cx) (io : Io) (es : List Expr) (ve : VA) : Prop:=Ea en X es (jN X.N.length io ve)
section
variable {en : En} {X : Cx} {io : Io} {a b c e : Expr} {es : List Expr} {va vb vc : VE} {pos : Pos}
theorem bS {l l' : LE} (h : E en X e l) (w : ∀ S G Φ,l' S G Φ -> l S G Φ) : E en X e l':=PE.weak h fun σ H Q ⟨S,G,Φ,s,g,q,k⟩ => ⟨S,G,Φ,s,g,w S G Φ q,k⟩
theorem lI {l l' : LT} (h : Et en X e l) (w : ∀ S G Φ,l' S G Φ -> l S G Φ) : Et en X e l':=PT.weak h fun σ H Q ⟨S,G,Φ,s,g,q,k⟩ => ⟨S,G,Φ,s,g,w S G Φ q,k⟩
theorem za {l l' : LT} (h : Ew en X e l) (w : ∀ S G Φ,l' S G Φ -> l S G Φ) : Ew en X e l':=PW.weak h fun σ H Q ⟨S,G,Φ,s,g,q,k⟩ => ⟨S,G,Φ,s,g,w S G Φ q,k⟩
theorem zG {l l' : LA} (h : Ea en X es l) (w : ∀ S G Φ,l' S G Φ -> l S G Φ) : Ea en X es l':=PA.weak h fun σ H Q ⟨S,G,Φ,s,g,q,k⟩ => ⟨S,G,Φ,s,g,w S G Φ q,k⟩
def uX (i : Nat) : VE:=fun σ Ψ => (σ i).isSome = true /\ Ψ (.sl i) σ
theorem ef : ∀ {S : S2} {i : Nat} {t : T},S[i]? = some (some t) -> sl S i = some t
 | [],_,_,h => by simp at h
 | x :: _,0,t,h => by simp at h; subst h; rfl
 | _ :: r,i + 1,t,h => by simpa [sl] using ef (S:=r) (i:=i) (by simpa using h)
theorem ev_var {i : Nat} (h : E en X e (cr i)) : Ev en X io e (uX i):=bS h fun S G Φ ⟨w,F,own,σ,Ψ,g,⟨q1,q⟩,k⟩ => by
 obtain ⟨c,hc⟩:=Option.isSome_iff_exists.mp q1
 obtain ⟨t,e1,_⟩:=g.cell i c hc
 unfold cr
 rw [ef e1]
 exact k _ _ _ _ _ _ q .refl g e1
def vC (p : PV) : VE:=fun σ Ψ => Ψ (.v (.fr p)) σ
theorem ev_c {t : T} {p : PV} (h : E en X e (lC t)) (r : ∀ F,Rp F t p) : Ev en X io e (vC p):=bS h fun S G Φ ⟨w,F,own,σ,Ψ,g,q,k⟩ => k _ _ _ _ _ _ q .refl g ⟨aB,r F,.nil⟩
theorem mw {t : T} {p : PV} (h : E en X e (gz t)) (r : ∀ F,Rp F t p) : Ev en X io e (vC p):=ev_c h r
theorem aD {i : Int} {j : Nat} : Ev en X io (.Constant (.int i) j pos) (vC (.int i)):=ev_c cG fun _ => .int _
theorem cA {i : Bool} {j : Nat} : Ev en X io (.Constant (.bool i) j pos) (vC (.bl i)):=ev_c aaw fun _ => .bl _
theorem adZ {j : Nat} : Ev en X io (.Constant .none j pos) (vC .non):=ev_c abf fun _ => .non
theorem bR {i : Str} {j : Nat} : Ev en X io (.Constant (.str i) j pos) (vC (.str i)):=ev_c bQ fun _ => .str _
def oN : VA:=fun σ Ψ => Ψ [] σ
def pB (va : VE) (vr : VA) : VA:=fun σ Ψ => va σ fun r σ1 => match fz r with
 | some r' => vr σ1 fun rs σ2 => Ψ (r' :: rs) σ2
 | none => False
theorem acD {N : Nat} {io : Io} : ∀ S G Φ,jN N io oN S G Φ -> fe S G Φ:=fun S G Φ ⟨w,F,own,σ,Ψ,g,q,k⟩ => k _ _ _ _ _ _ q .refl g trivial
theorem acE {N : Nat} {io : Io} {vr : VA} : ∀ S G Φ,jN N io (pB va vr) S G Φ -> dD (bJ N io va) (jN N io vr) S G Φ:=by
 intro S G Φ ⟨w,F,own,σ,Ψ,g,q,k⟩
 refine ⟨w,F,own,σ,_,g,q,fun r σ1 F1 own1 G1 t q1 x1 g1 r1 => ?_⟩
 split at q1
 . rename_i r' e
   obtain ⟨F2,g2,x2,ar⟩:=g1.fz r1 e
   exact ⟨w,F2,own1,σ1,_,g2,q1,fun rs σ2 F3 own3 G3 ts q3 x3 g3 ar3 => k _ _ _ _ _ (t :: ts) q3 ((x1.trans x2).trans x3) g3 ⟨ar.sub x3.sub,ar3⟩⟩
 . exact q1.elim
theorem ah : dM en X io [] oN:=zG ea_nil acD
theorem ae {vr : VA} (h : Ev en X io a va) (hr : dM en X io es vr) (hs : starEach (a :: es) X.env = (false,eval a X.env) :: starEach es X.env:=by rfl) : dM en X io (a :: es) (pB va vr):=zG (ea_cons h hr hs) acE
def j5 (r : bj) (rp : PV -> PV -> (Cell -> Prop) -> Prop) : Prop:=∀ (F G : Gp) (t u : T) (p q : PV) (Ψ : Cell -> Prop) (Φ : QT),Sub F G -> cF F G t p -> cF F G u q -> rp p q Ψ ->
 (∀ c t' G' H,Ψ c -> Fresh G H G' -> bu F H t' c -> Φ t' G') -> r t u G Φ
def oy (rp : PV -> PV -> (Cell -> Prop) -> Prop) (va vb : VE) : VE:=fun σ Ψ => va σ fun r1 σ1 => match fz r1 with
 | some r1 => vb σ1 fun r2 σ2 => (match rd σ2 r1,rd σ2 r2 with
  | some p,some q => rp p q fun c => Ψ (.v c) σ2
  | _,_ => False)
 | none => False
theorem ev_op {r : bj} {rp : PV -> PV -> (Cell -> Prop) -> Prop} (he : ∀ la lb,E en X a la -> E en X b lb -> E en X e (ed r la lb)) (ho : j5 r rp) (ha : Ev en X io a va) (hb : Ev en X io b vb) : Ev en X io e (oy rp va vb):=by
 refine bS (he _ _ ha hb) fun S G Φ ⟨w,F,own,σ,Ψ,g,q,k⟩ => ?_
 refine ⟨w,F,own,σ,_,g,q,fun r1 σ1 F1 own1 G1 t q1 x1 g1 r1' => ?_⟩
 split at q1
 . rename_i r0 e0
   obtain ⟨F2,g2,x2,ar⟩:=g1.fz r1' e0
   refine ⟨w,F2,own1,σ1,_,g2,q1,fun r2 σ2 F3 own3 G3 u q3 x3 g3 r3 => ?_⟩
   split at q3
   . rename_i p q e1 e2
     exact ho _ _ _ _ _ _ _ _ g3.sub (g3.rdA (ar.sub x3.sub) e1) (g3.rdV r3 e2) q3 fun c t' G' H q4 f h => by
      obtain ⟨g4,m4⟩:=g3.fresh f
      exact k _ _ _ _ _ _ q4 ((x1.trans x2).trans x3) g4 ⟨H,h,m4⟩
   . exact q3.elim
 . exact q1.elim
def vB (va : VE) : VT:=fun σ Ψ => va σ fun r σ1 => match rd σ1 r with
 | some (.bl b) => Ψ b σ1
 | _ => False
theorem rA {N : Nat} {io : Io} : ∀ S G Φ,d3 N io (vB va) S G Φ -> lB (bJ N io va) S G Φ:=by
 intro S G Φ ⟨w,F,own,σ,Ψ,g,q,k⟩
 refine ⟨w,F,own,σ,_,g,q,fun r σ1 F1 own1 G1 t q1 x1 g1 r1 => ?_⟩
 split at q1
 . rename_i b e
   have:=g1.rdV r1 e
   obtain rfl : t = .bl b:=this
   exact k _ _ _ _ _ q1 x1 g1
 . exact q1.elim
theorem ck (h : Ev en X io a va) (he : ∀ whole,isTrue a X.env whole = (do let v <- whole; standAt a.pos; holding [v] (truthy v)):=by intro _; rfl) : dS en X io a (vB va):=lI (yX h he) rA
theorem bv {r : bj} {rp : PV -> PV -> (Cell -> Prop) -> Prop} (he : ∀ la lb,E en X a la -> E en X b lb -> Et en X e (lB (ed r la lb))) (ho : j5 r rp) (ha : Ev en X io a va) (hb : Ev en X io b vb) : dS en X io e (vB (oy rp va vb)):=by
 refine lI (he _ _ ha hb) fun S G Φ h => ?_
 obtain ⟨w,F,own,σ,Ψ,g,q,k⟩:=rA S G Φ h
 refine ⟨w,F,own,σ,_,g,q,fun r1 σ1 F1 own1 G1 t q1 x1 g1 r1' => ?_⟩
 split at q1
 . rename_i r0 e0
   obtain ⟨F2,g2,x2,ar⟩:=g1.fz r1' e0
   refine ⟨w,F2,own1,σ1,_,g2,q1,fun r2 σ2 F3 own3 G3 u q3 x3 g3 r3 => ?_⟩
   split at q3
   . rename_i p q e1 e2
     exact ho _ _ _ _ _ _ _ _ g3.sub (g3.rdA (ar.sub x3.sub) e1) (g3.rdV r3 e2) q3 fun c t' G' H q4 f h => by
      obtain ⟨g4,m4⟩:=g3.fresh f
      exact k _ _ _ _ _ _ q4 ((x1.trans x2).trans x3) g4 ⟨H,h,m4⟩
   . exact q3.elim
 . exact q1.elim
def uh (t u : VT) : VT:=fun σ Ψ => t σ fun c σ1 => if c = true then u σ1 Ψ else Ψ false σ1
def sf (t u : VT) : VT:=fun σ Ψ => t σ fun c σ1 => if c = true then Ψ true σ1 else u σ1 Ψ
def rj (t : VT) : VT:=fun σ Ψ => t σ fun c σ1 => Ψ (!c) σ1
variable {vt vu : VT} {rest : List Expr}
theorem vX (h : dS en X io a vt) : jz en X io (.BoolOp .And [a] pos) vt:=zv h
theorem dI (h : dS en X io a vt) : jz en X io (.BoolOp .Or [a] pos) vt:=aap h
theorem wy (h : dS en X io a vt) (hb : jz en X io (.BoolOp .And (b :: rest) pos) vu) : jz en X io (.BoolOp .And (a :: b :: rest) pos) (uh vt vu):=za (wB h hb) fun S G Φ ⟨w,F,own,σ,Ψ,g,q,k⟩ => by
 refine ⟨w,F,own,σ,_,g,q,fun c σ1 F1 own1 G1 q1 x1 g1 => ?_⟩
 cases c with
 | true => exact ⟨w,F1,own1,σ1,Ψ,g1,q1,fun b σ2 F2 own2 G2 q2 x2 g2 => k _ _ _ _ _ q2 (x1.trans x2) g2⟩
 | false => exact k _ _ _ _ _ q1 x1 g1
theorem cY (h : dS en X io a vt) (hb : jz en X io (.BoolOp .Or (b :: rest) pos) vu) : jz en X io (.BoolOp .Or (a :: b :: rest) pos) (sf vt vu):=za (acU h hb) fun S G Φ ⟨w,F,own,σ,Ψ,g,q,k⟩ => by
 refine ⟨w,F,own,σ,_,g,q,fun c σ1 F1 own1 G1 q1 x1 g1 => ?_⟩
 cases c with
 | false => exact ⟨w,F1,own1,σ1,Ψ,g1,q1,fun b σ2 F2 own2 G2 q2 x2 g2 => k _ _ _ _ _ q2 (x1.trans x2) g2⟩
 | true => exact k _ _ _ _ _ q1 x1 g1
theorem dh (h : jz en X io a vt) : dS en X io a vt:=yQ h
theorem bM (h : dS en X io a vt) : dS en X io (.UnaryOp .Not a pos) (rj vt):=lI (et_not h) fun S G Φ ⟨w,F,own,σ,Ψ,g,q,k⟩ => ⟨w,F,own,σ,_,g,q,fun c σ1 F1 own1 G1 q1 x1 g1 => k _ _ _ _ _ q1 x1 g1⟩
def sC (va vb : VE) : VE:=fun σ Ψ => va σ fun r σ1 => match rd σ1 r with
 | some (.bl c) => if c = true then vb σ1 Ψ else Ψ (.v (.fr (.bl false))) σ1
 | _ => False
def uS (va vb : VE) : VE:=fun σ Ψ => va σ fun r σ1 => match rd σ1 r with
 | some (.bl c) => if c = true then Ψ (.v (.fr (.bl true))) σ1 else vb σ1 Ψ
 | _ => False
def qi (va : VE) : VE:=fun σ Ψ => va σ fun r σ1 => match rd σ1 r with
 | some (.bl c) => Ψ (.v (.fr (.bl (!c)))) σ1
 | _ => False
theorem lX {op : BoolOp} (h : Ev en X io a va) : Ev en X io (.BoolOp op [a] pos) va:=acm h
theorem oK (h : Ev en X io a va) (hb : Ev en X io (.BoolOp .And (b :: rest) pos) vb) : Ev en X io (.BoolOp .And (a :: b :: rest) pos) (sC va vb):=bS (aa2 h hb) fun S G Φ ⟨w,F,own,σ,Ψ,g,q,k⟩ => by
 refine ⟨w,F,own,σ,_,g,q,fun r σ1 F1 own1 G1 t q1 x1 g1 r1 => ?_⟩
 split at q1
 . rename_i c e
   obtain rfl : t = .bl c:=g1.rdV r1 e
   cases c with
   | true => exact ⟨w,F1,own1,σ1,Ψ,g1,q1,fun b σ2 F2 own2 G2 t2 q2 x2 g2 r2 => k _ _ _ _ _ _ q2 (x1.trans x2) g2 r2⟩
   | false => exact k _ _ _ _ _ _ q1 x1 g1 ⟨aB,.bl _,.nil⟩
 . exact q1.elim
theorem aeJ (h : Ev en X io a va) (hb : Ev en X io (.BoolOp .Or (b :: rest) pos) vb) : Ev en X io (.BoolOp .Or (a :: b :: rest) pos) (uS va vb):=bS (acu h hb) fun S G Φ ⟨w,F,own,σ,Ψ,g,q,k⟩ => by
 refine ⟨w,F,own,σ,_,g,q,fun r σ1 F1 own1 G1 t q1 x1 g1 r1 => ?_⟩
 split at q1
 . rename_i c e
   obtain rfl : t = .bl c:=g1.rdV r1 e
   cases c with
   | false => exact ⟨w,F1,own1,σ1,Ψ,g1,q1,fun b σ2 F2 own2 G2 t2 q2 x2 g2 r2 => k _ _ _ _ _ _ q2 (x1.trans x2) g2 r2⟩
   | true => exact k _ _ _ _ _ _ q1 x1 g1 ⟨aB,.bl _,.nil⟩
 . exact q1.elim
theorem afi (h : Ev en X io a va) : Ev en X io (.UnaryOp .Not a pos) (qi va):=bS (aeX h) fun S G Φ ⟨w,F,own,σ,Ψ,g,q,k⟩ => by
 refine ⟨w,F,own,σ,_,g,q,fun r σ1 F1 own1 G1 t q1 x1 g1 r1 => ?_⟩
 split at q1
 . rename_i c e
   obtain rfl : t = .bl c:=g1.rdV r1 e
   exact k _ _ _ _ _ _ q1 x1 g1 ⟨aB,.bl _,.nil⟩
 . exact q1.elim
def uU (t : VT) (va vb : VE) : VE:=fun σ Ψ => t σ fun c σ1 => if c = true then va σ1 Ψ else vb σ1 Ψ
theorem ev_if (h : dS en X io c vt) (ha : Ev en X io a va) (hb : Ev en X io b vb) : Ev en X io (.IfExp c a b pos) (uU vt va vb):=bS (ab4 h ha hb) fun S G Φ ⟨w,F,own,σ,Ψ,g,q,k⟩ => by
 refine ⟨w,F,own,σ,_,g,q,fun d σ1 F1 own1 G1 q1 x1 g1 => ?_⟩
 cases d with
 | true => exact ⟨w,F1,own1,σ1,Ψ,g1,q1,fun b σ2 F2 own2 G2 t2 q2 x2 g2 r2 => k _ _ _ _ _ _ q2 (x1.trans x2) g2 r2⟩
 | false => exact ⟨w,F1,own1,σ1,Ψ,g1,q1,fun b σ2 F2 own2 G2 t2 q2 x2 g2 r2 => k _ _ _ _ _ _ q2 (x1.trans x2) g2 r2⟩
def fg (r : bj) (rp : PV -> PV -> (Bool -> Prop) -> Prop) : Prop:=∀ (F G : Gp) (t u : T) (p q : PV) (Ψ : Bool -> Prop) (Φ : QT),Sub F G -> cF F G t p -> cF F G u q -> rp p q Ψ -> (∀ b,Ψ b -> Φ (.bl b) G) -> r t u G Φ
def bP (rp : PV -> PV -> (Bool -> Prop) -> Prop) : PV -> PV -> (Cell -> Prop) -> Prop:=fun p q k => rp p q fun b => k (.fr (.bl b))
theorem fg.v {r : bj} {rp : PV -> PV -> (Bool -> Prop) -> Prop} (h : fg r rp) : j5 r (bP rp):=fun F G t u p q Ψ Φ s a b q1 k => h F G t u p q _ Φ s a b q1 fun c hc => k _ _ _ aB hc .no (.bl c)
def mL (rp rp' : PV -> PV -> (Bool -> Prop) -> Prop) (va vb vc : VE) : VE:=fun σ Ψ => va σ fun r1 σ1 => match fz r1 with
 | some r1 => vb σ1 fun r2 σ2 => (match fz r2 with
  | some r2 => (match rd σ2 r1,rd σ2 r2 with
   | some p,some q => rp p q fun z => if z = true then vc σ2 fun r3 σ3 => (match rd σ3 r2,rd σ3 r3 with
    | some q,some w => rp' q w fun z => Ψ (.v (.fr (.bl z))) σ3
    | _,_ => False) else Ψ (.v (.fr (.bl false))) σ2
   | _,_ => False)
  | none => False)
 | none => False
theorem yc {N : Nat} {io : Io} {r r' : bj} {rp rp' : PV -> PV -> (Bool -> Prop) -> Prop} (ho : fg r rp) (ho' : fg r' rp') : ∀ S G Φ,bJ N io (mL rp rp' va vb vc) S G Φ -> iP r r' (bJ N io va) (bJ N io vb) (bJ N io vc) S G Φ:=by
 intro S G Φ ⟨w,F,own,σ,Ψ,g,q,k⟩
 refine ⟨w,F,own,σ,_,g,q,fun r1 σ1 F1 own1 G1 t q1 x1 g1 r1' => ?_⟩
 split at q1
 . rename_i r0 e0
   obtain ⟨F2,g2,x2,ar⟩:=g1.fz r1' e0
   refine ⟨w,F2,own1,σ1,_,g2,q1,fun r2 σ2 F3 own3 G3 u q3 x3 g3 r3 => ?_⟩
   split at q3
   . rename_i r20 e20
     obtain ⟨F4,g4,x4,ar2⟩:=g3.fz r3 e20
     have x:=((x1.trans x2).trans x3).trans x4
     split at q3
     . rename_i p q e1 e2
       refine ho _ _ _ _ _ _ _ _ g4.sub (g4.rdA ((ar.sub x3.sub).sub x4.sub) e1) (g4.rdA ar2 e2) q3 fun z hz => ?_
       cases z with
       | false => exact k _ _ _ _ _ _ hz x g4 ⟨aB,.bl _,.nil⟩
       | true =>
        refine ⟨w,F4,own3,σ2,_,g4,hz,fun r5 σ5 F5 own5 G5 w q5 x5 g5 r5' => ?_⟩
        split at q5
        . rename_i q' w' e3 e4
          exact ho' _ _ _ _ _ _ _ _ g5.sub (g5.rdA (ar2.sub x5.sub) e3) (g5.rdV r5' e4) q5 fun z hz => k _ _ _ _ _ _ hz (x.trans x5) g5 ⟨aB,.bl _,.nil⟩
        . exact q5.elim
     . exact q3.elim
   . exact q3.elim
 . exact q1.elim
theorem aeM {r r' : bj} {rp rp' : PV -> PV -> (Bool -> Prop) -> Prop} (he : ∀ la lb lc,E en X a la -> E en X b lb -> E en X c lc -> E en X e (iP r r' la lb lc)) (ho : fg r rp) (ho' : fg r' rp') (ha : Ev en X io a va) (hb : Ev en X io b vb) (hc : Ev en X io c vc) :
    Ev en X io e (mL rp rp' va vb vc):=bS (he _ _ _ ha hb hc) (yc ho ho')
theorem nv {r r' : bj} {rp rp' : PV -> PV -> (Bool -> Prop) -> Prop} (he : ∀ la lb lc,E en X a la -> E en X b lb -> E en X c lc -> Et en X e (lB (iP r r' la lb lc))) (ho : fg r rp) (ho' : fg r' rp') (ha : Ev en X io a va) (hb : Ev en X io b vb) (hc : Ev en X io c vc) :
    dS en X io e (vB (mL rp rp' va vb vc)):=lI (he _ _ _ ha hb hc) fun S G Φ h => yc ho ho' S G _ (rA S G Φ h)
def gK (F G : Gp) : List T -> List PV -> Prop
 | [],[] => True
 | t :: ts,p :: ps => cF F G t p /\ gK F G ts ps
 | _,_ => False
def jo (σ : SV) : List RV -> Option (List PV)
 | [] => some []
 | r :: rs => match rd σ r,jo σ rs with
  | some p,some ps => some (p :: ps)
  | _,_ => none
theorem uI {fx : Fx} {F G : Gp} {own : Nat -> Gp} {S : S2} {σ : SV} (g : VRel fx F own S G σ) : ∀ {ts : List T} {rs : List RV} {ps : List PV},cu F S ts rs -> jo σ rs = some ps -> gK F G ts ps
 | [],[],_,_,e => by cases e; exact trivial
 | t :: ts,r :: rs,ps,h,e => by
  simp only [jo] at e
  split at e
  . rename_i p qs e1 e2
    cases e
    exact ⟨g.rdA h.1 e1,uI g h.2 e2⟩
  . cases e
 | [],_ :: _,_,h,_ => h.elim
 | _ :: _,[],_,h,_ => h.elim
def fU (r : cw) (rp : List PV -> (Cell -> Prop) -> Prop) : Prop:=∀ (F G : Gp) (ts : List T) (ps : List PV) (Ψ : Cell -> Prop) (Φ : QT),Sub F G -> gK F G ts ps -> rp ps Ψ ->
 (∀ c t' G' H,Ψ c -> Fresh G H G' -> bu F H t' c -> Φ t' G') -> r ts G Φ
def q8 (rp : List PV -> (Cell -> Prop) -> Prop) (va : VA) : VE:=fun σ Ψ => va σ fun rs σ1 => match jo σ1 rs with
 | some ps => rp ps fun c => Ψ (.v c) σ1
 | none => False
theorem ev_cb {r : cw} {rp : List PV -> (Cell -> Prop) -> Prop} {va : VA} (he : ∀ l,Ea en X es l -> E en X e (cq r l)) (ho : fU r rp) (ha : dM en X io es va) : Ev en X io e (q8 rp va):=by
 refine bS (he _ ha) fun S G Φ ⟨w,F,own,σ,Ψ,g,q,k⟩ => ?_
 refine ⟨w,F,own,σ,_,g,q,fun rs σ1 F1 own1 G1 ts q1 x1 g1 r1 => ?_⟩
 split at q1
 . rename_i ps e
   refine ho _ _ _ _ _ _ g1.sub (uI g1 r1 e) q1 fun c t' G' H q4 f h => ?_
   obtain ⟨g4,m4⟩:=g1.fresh f
   exact k _ _ _ _ _ _ q4 x1 g4 ⟨H,h,m4⟩
 . exact q1.elim
def fC (σ : SV) : List RV -> Option (List PV × SV)
 | [] => some ([],σ)
 | r :: rs => match tk σ r with
  | some (p,σ1) => (match fC σ1 rs with
   | some (ps,σ2) => some (p :: ps,σ2)
   | none => none)
  | none => none
theorem gM.rv {fx : Fx} {F : Gp} {own : Nat -> Gp} {S : S2} {G : Gp} {t : T} {r : RV} (h : gM F S t r) : du fx F own S G t r:=by
 cases r with
 | v c =>
  cases c with
  | fr p => exact ⟨aB,h,.nil⟩
  | _ => exact h.elim
 | sl i => exact h
theorem cu.sub {F F' : Gp} {S : S2} (s : Sub F F') : ∀ {ts : List T} {rs : List RV},cu F S ts rs -> cu F' S ts rs
 | [],[],_ => trivial
 | _ :: _,_ :: _,h => ⟨h.1.sub s,cu.sub s h.2⟩
 | [],_ :: _,h => h.elim
 | _ :: _,[],h => h.elim
theorem iZ {fx : Fx} {G : Gp} {S : S2} : ∀ {ts : List T} {rs : List RV} {ps : List PV} {F : Gp} {own : Nat -> Gp} {σ σ' : SV},VRel fx F own S G σ -> cu F S ts rs -> fC σ rs = some (ps,σ') -> ∃ F' own',VRel fx F' own' S G σ' /\ Ext F F' /\ RpL F' ts ps
 | [],[],_,F,own,σ,σ',g,_,e => by cases e; exact ⟨F,own,g,.refl,.nil⟩
 | t :: ts,r :: rs,ps,F,own,σ,σ',g,h,e => by
  simp only [fC] at e
  split at e
  . rename_i p σ1 e1
    split at e
    . rename_i qs σ2 e2
      cases e
      obtain ⟨F1,own1,g1,x1,r1⟩:=g.tk h.1.rv e1
      obtain ⟨F2,own2,g2,x2,r2⟩:=iZ g1 (h.2.sub x1.sub) e2
      exact ⟨F2,own2,g2,x1.trans x2,.cons (r1.sub x2.sub) r2⟩
    . cases e
  . cases e
 | [],_ :: _,_,_,_,_,_,_,h,_ => h.elim
 | _ :: _,[],_,_,_,_,_,_,h,_ => h.elim
def pV (va : VA) : VE:=fun σ Ψ => va σ fun rs σ1 => match fC σ1 rs with
 | some (ps,σ2) => ps.length <= sizeLine /\ Ψ (.v (.fr (.tup ps))) σ2
 | none => False
def qa (va : VA) : VE:=fun σ Ψ => va σ fun rs σ1 => match fC σ1 rs with
 | some (ps,σ2) => ps.length <= sizeLine /\ Ψ (.v (.ow (.lst ps))) σ2
 | none => False
theorem eV {va : VA} {k : Nat} (h : dM en X io es va) : Ev en X io (.Tuple es k pos) (pV va):=by
 refine bS (eJ h) fun S G Φ ⟨w,F,own,σ,Ψ,g,q,k⟩ => ?_
 refine ⟨w,F,own,σ,_,g,q,fun rs σ1 F1 own1 G1 ts q1 x1 g1 r1 => ?_⟩
 split at q1
 . rename_i ps σ2 e
   obtain ⟨F2,own2,g2,x2,r2⟩:=iZ g1 r1 e
   exact ⟨by rw [r2.length]; exact q1.1,k _ _ _ _ _ _ q1.2 (x1.trans x2) g2 ⟨aB,.tup r2,.nil⟩⟩
 . exact q1.elim
theorem dv {va : VA} (h : dM en X io es va) : Ev en X io (.List es pos) (qa va):=by
 refine bS (kJ h) fun S G Φ ⟨w,F,own,σ,Ψ,g,q,k⟩ => ?_
 refine ⟨w,F,own,σ,_,g,q,fun rs σ1 F1 own1 G1 ts q1 x1 g1 r1 => ?_⟩
 split at q1
 . rename_i ps σ2 e
   obtain ⟨F2,own2,g2,x2,r2⟩:=iZ g1 r1 e
   refine ⟨by rw [r2.length]; exact q1.1,fun p hp => ?_⟩
   obtain ⟨g4,m4⟩:=g2.fresh (Fresh.new (o:=.lst ts) hp)
   exact k _ _ _ _ _ _ q1.2 (x1.trans x2) g4 ⟨_,⟨p,ts,rfl,rfl,r2⟩,m4⟩
 . exact q1.elim
def u6 : VE:=fun σ Ψ => Ψ (.v (.ow (.dic []))) σ
theorem adG : Ev en X io (.Dict [] [] pos) u6:=bS aem fun S G Φ ⟨w,F,own,σ,Ψ,g,q,k⟩ p hp => by
 obtain ⟨g4,m4⟩:=g.fresh (Fresh.new (o:=.dic []) hp)
 exact k _ _ _ _ _ _ q .refl g4 ⟨_,⟨p,[],rfl,rfl,.nil⟩,m4⟩
abbrev VO:=SV -> (Option Int -> SV -> Prop) -> Prop
def ab6 (N : Nat) (io : Io) (vo : VO) : LO:=fun S G Φ => ∃ w F own σ Ψ,VRel (ak N io w) F own S G σ /\ vo σ Ψ /\ ∀ i σ' F' own' G',Ψ i σ' -> Ext F F' -> VRel (ak N io w) F' own' S G' σ' -> Φ i G'
def n8 (en : En) (X : Cx) (io : Io) (e : Option Expr) (vo : VO) : Prop:=Eo en X e (ab6 X.N.length io vo)
theorem xQ {oe : Option Expr} {l l' : LO} (h : Eo en X oe l) (w : ∀ S G Φ,l' S G Φ -> l S G Φ) : Eo en X oe l':=PO.weak h fun σ H Q ⟨S,G,Φ,s,g,q,k⟩ => ⟨S,G,Φ,s,g,w S G Φ q,k⟩
def qQ : VO:=fun σ Ψ => Ψ none σ
def qH (va : VE) : VO:=fun σ Ψ => va σ fun r σ1 => match rd σ1 r with
 | some (.int i) => Ψ (some i) σ1
 | _ => False
theorem tm : n8 en X io none qQ:=xQ eo_none fun S G Φ ⟨w,F,own,σ,Ψ,g,q,k⟩ => k _ _ _ _ _ q .refl g
theorem qY (h : Ev en X io a va) : n8 en X io (some a) (qH va):=xQ (eo_some h) fun S G Φ ⟨w,F,own,σ,Ψ,g,q,k⟩ => by
 refine ⟨w,F,own,σ,_,g,q,fun r σ1 F1 own1 G1 t q1 x1 g1 r1 => ?_⟩
 split at q1
 . rename_i c e
   obtain rfl : t = .int c:=g1.rdV r1 e
   exact k _ _ _ _ _ q1 x1 g1
 . exact q1.elim
def rW : PV -> Option Int -> Option Int -> (Cell -> Prop) -> Prop
 | .tup xs,lo,hi,k => k (.fr (.tup (cut xs lo hi)))
 | .lst xs,lo,hi,k => k (.ow (.lst (cut xs lo hi)))
 | .str z,lo,hi,k => z.length <= sizeLine /\ k (.fr (.str (cutS z lo hi)))
 | _,_,_,_ => False
theorem RpL.cut {F : Gp} {ts : List T} {ps : List PV} (r : RpL F ts ps) (lo hi : Option Int) : RpL F (cut ts lo hi) (cut ps lo hi):=by
 unfold Dv.cut
 rw [r.length]
 exact (r.drop _).take _
def ql (va : VE) (vl vh : VO) : VE:=fun σ Ψ => va σ fun r σ1 => match fz r with
 | some r => vl σ1 fun i σ2 => vh σ2 fun j σ3 => (match rd σ3 r with
  | some p => rW p i j fun c => Ψ (.v c) σ3
  | none => False)
 | none => False
theorem sV {lo hi : Option Expr} {vl vh : VO} {p2 : Pos} (h : Ev en X io a va) (hl : n8 en X io lo vl) (hh : n8 en X io hi vh) : Ev en X io (.Subscript a (.Slice lo hi none p2) pos) (ql va vl vh):=bS (acM h hl hh) fun S G Φ ⟨w,F,own,σ,Ψ,g,q,k⟩ => by
 refine ⟨w,F,own,σ,_,g,q,fun r σ1 F1 own1 G1 t q1 x1 g1 r1 => ?_⟩
 split at q1
 . rename_i r0 e0
   obtain ⟨F2,g2,x2,ar⟩:=g1.fz r1 e0
   refine ⟨w,F2,own1,σ1,_,g2,q1,fun i σ3 F3 own3 G3 q3 x3 g3 => ?_⟩
   refine ⟨w,F3,own3,σ3,_,g3,q3,fun j σ4 F4 own4 G4 q4 x4 g4 => ?_⟩
   have x:=((x1.trans x2).trans x3).trans x4
   split at q4
   . rename_i p e1
     have rr:=g4.rdA ((ar.sub x3.sub).sub x4.sub) e1
     cases p with
     | tup ps =>
      obtain ⟨ts,rfl,h⟩:=rr
      exact k _ _ _ _ _ _ q4 x g4 ⟨aB,.tup (h.cut _ _),.nil⟩
     | lst ps =>
      obtain ⟨ad,ts,rfl,h1,h⟩:=rr
      simp only [rQ,h1]
      intro p hp
      obtain ⟨g5,m5⟩:=g4.fresh (Fresh.new (o:=.lst (cut ts i j)) hp)
      exact k _ _ _ _ _ _ q4 x g5 ⟨_,⟨p,_,rfl,rfl,h.cut _ _⟩,m5⟩
     | str z =>
      obtain rfl : t = .str z:=rr
      exact ⟨q4.1,k _ _ _ _ _ _ q4.2 x g4 ⟨aB,.str _,.nil⟩⟩
     | _ => exact q4.elim
   . exact q4.elim
 . exact q1.elim
def rh (va : VE) : VE:=fun σ Ψ => va σ fun r σ1 => match rd σ1 r with
 | some (.lst xs) => Ψ (.v (.ow (.lst xs.reverse))) σ1
 | _ => False
theorem aey {k : Nat} {p1 p2 p3 : Pos} (h : Ev en X io a va) : Ev en X io (.Subscript a (.Slice none none (some (.UnaryOp .USub (.Constant (.int 1) k p1) p2)) p3) pos) (rh va):=bS (abg h) fun S G Φ ⟨w,F,own,σ,Ψ,g,q,k⟩ => by
 refine ⟨w,F,own,σ,_,g,q,fun r σ1 F1 own1 G1 t q1 x1 g1 r1 => ?_⟩
 split at q1
 . rename_i xs e
   obtain ⟨ad,ts,rfl,h1,h⟩:=g1.rdV r1 e
   simp only [rR,h1]
   intro p hp
   obtain ⟨g5,m5⟩:=g1.fresh (Fresh.new (o:=.lst ts.reverse) hp)
   exact k _ _ _ _ _ _ q1 x1 g5 ⟨_,⟨p,_,rfl,rfl,h.rev⟩,m5⟩
 . exact q1.elim
def tyP : PV -> Option String
 | .non => some "NoneType" | .bl _ => some "bool" | .int _ => some "int" | .str _ => some "str" | .tup _ => some "tuple" | .lst _ => some "list" | .dic _ => some "dict" | .dicN _ => some "dict" | _ => none
theorem qP {F G : Gp} {t : T} {p : PV} {m : String} (r : cF F G t p) (h : tyP p = some m) : eD t G = some m:=by
 cases p with
 | non => cases r; exact h
 | bl b => cases r; exact h
 | int i => cases r; exact h
 | str x => cases r; exact h
 | ty n => cases h
 | tup ps => obtain ⟨ts,rfl,_⟩:=r; exact h
 | lst ps => obtain ⟨a,ts,rfl,h1,_⟩:=r; simpa [eD,h1,tyP] using h
 | dic ps =>
  obtain ⟨a,ts,rfl,h1,_⟩:=r
  unfold aG at h1
  split at h1
  . rename_i e; simpa [eD,e,tyP] using h
  . rename_i e; simpa [eD,e,tyP] using h
  . cases h1
 | ins C ps => cases h
 | exc C ns ps => cases h
 | lam L => cases h
 | dicN ps =>
  obtain ⟨a,ts,rfl,h1,_⟩:=r
  unfold eI at h1
  split at h1
  . rename_i e; simpa [eD,e,tyP] using h
  . rename_i e; simpa [eD,e,tyP] using h
  . cases h1
def q9 (n1 n2 : String) (va : VE) : VE:=fun σ Ψ => va σ fun r σ1 => match rd σ1 r with
 | some p => n1 ∈ cN /\ n2 ∈ cN /\ (match tyP p with
  | some m => Ψ (.v (.fr (.bl (aQ m n1 || aQ m n2)))) σ1
  | none => False)
 | none => False
theorem adQ {n1 n2 : String} (he : ∀ la,E en X a la -> E en X e (oa n1 n2 la)) (h : Ev en X io a va) : Ev en X io e (q9 n1 n2 va):=bS (he _ h) fun S G Φ ⟨w,F,own,σ,Ψ,g,q,k⟩ => by
 refine ⟨w,F,own,σ,_,g,q,fun r σ1 F1 own1 G1 t q1 x1 g1 r1 => ?_⟩
 split at q1
 . rename_i p e
   obtain ⟨h1,h2,q1⟩:=q1
   refine ⟨h1,h2,?_⟩
   split at q1
   . rename_i m em
     rw [qP (g1.rdV r1 e) em]
     exact k _ _ _ _ _ _ q1 x1 g1 ⟨aB,.bl _,.nil⟩
   . exact q1.elim
 . exact q1.elim
end
mutual
def bc : PV -> PyData
 | .non => .none
 | .bl b => .bool b
 | .int i => .int i
 | .str x => .str x
 | .tup ts => .tuple (cH ts)
 | .lst ts => .list (cH ts)
 | _ => .none
def cH : List PV -> List PyData
 | [] => []
 | t :: ts => bc t :: cH ts
end
mutual
def au : PV -> Bool
 | .non => true
 | .bl _ => true
 | .int _ => true
 | .str x => PyData.strOk x
 | .tup ts => cC ts
 | .lst ts => cC ts
 | _ => false
def cC : List PV -> Bool
 | [] => true
 | t :: ts => au t && cC ts
end
mutual
def bh : PV -> PV -> Bool
 | .tup xs,.tup ys => eQ xs ys
 | .lst xs,.lst ys => eQ xs ys
 | .bl _,.int _ => false
 | .int _,.bl _ => false
 | _,_ => true
def eQ : List PV -> List PV -> Bool
 | x :: xs,y :: ys => bh x y && eQ xs ys
 | _,_ => true
end
mutual
def aJ : PV -> Nat
 | .tup ts => cE ts + 1
 | .lst ts => cE ts + 1
 | _ => 0
def cE : List PV -> Nat
 | [] => 0
 | t :: ts => max (aJ t) (cE ts)
end
mutual
theorem iA {G : Gp} : ∀ {p : PV} {t : T},au p = true -> Rp G t p -> Dat G t (bc p) /\ (bc p).canLay0 = true /\ (bc p).depth = aJ p
 | .non,_,_,.non => ⟨.non,rfl,rfl⟩
 | .bl b,_,_,.bl _ => ⟨.bl b,rfl,rfl⟩
 | .int i,_,_,.int _ => ⟨.int i,rfl,rfl⟩
 | .str x,_,h,.str _ => ⟨.str x,by simpa [bc,PyData.canLay0,au] using h,rfl⟩
 | .tup ps,_,h,.tup r => by
  obtain ⟨h1,h2,h3⟩:=sX (G:=G) (by simpa [au] using h) r
  refine ⟨.tup h1,by simpa [bc,PyData.canLay0] using h2,?_⟩
  simp [bc,PyData.depth,aJ,h3]
 | .lst ps,_,h,.lst hg r => by
  obtain ⟨h1,h2,h3⟩:=sX (G:=G) (by simpa [au] using h) r
  refine ⟨.lst hg h1,by simpa [bc,PyData.canLay0] using h2,?_⟩
  simp [bc,PyData.depth,aJ,h3]
theorem sX {G : Gp} : ∀ {ps : List PV} {ts : List T},cC ps = true -> RpL G ts ps -> DatL G ts (cH ps) /\ PyData.canLayAll0 (cH ps) = true /\ PyData.depthAll (cH ps) = cE ps
 | [],_,_,.nil => ⟨.nil,by simp [cH,PyData.canLayAll0],by simp [cH,PyData.depthAll,cE]⟩
 | p :: ps,_,h,.cons r rs => by
  have h' : au p = true /\ cC ps = true:=by simpa [cC] using h
  obtain ⟨a1,a2,a3⟩:=iA (G:=G) h'.1 r
  obtain ⟨b1,b2,b3⟩:=sX (G:=G) h'.2 rs
  exact ⟨.cons a1 b1,by simp [cH,PyData.canLayAll0,a2,b2],by simp [cH,PyData.depthAll,cE,a3,b3]⟩
end
theorem uy {α : Type} [BEq α] [LawfulBEq α] (a b : α) [Decidable (a = b)] : (a == b) = decide (a = b):=by
 by_cases h : a = b
 . subst h; simp
 . rw [beq_eq_false_iff_ne.mpr h,decide_eq_false h]
mutual
theorem o8 : ∀ (p q : PV),au p = true -> au q = true -> bh p q = true -> PyData.eqv (bc p) (bc q) = decide (p = q)
 | .non,u,_,h,_ => by cases u <;> simp_all [bc,PyData.eqv,au]
 | .bl b,u,_,h,c => by cases u <;> simp_all [bc,PyData.eqv,au,bh]; exact uy _ _
 | .int b,u,_,h,c => by cases u <;> simp_all [bc,PyData.eqv,au,bh]; exact uy _ _
 | .str b,u,_,h,c => by cases u <;> simp_all [bc,PyData.eqv,au,bh]; exact uy _ _
 | .ty _,u,h,_,_ => by simp [au] at h
 | .dic _,u,h,_,_ => by simp [au] at h
 | .ins _ _,u,h,_,_ => by simp [au] at h
 | .tup xs,u,h,h2,c => by
  cases u with
  | tup ys =>
   simp only [bc,PyData.eqv,PV.tup.injEq]
   exact vp xs ys (by simpa [au] using h) (by simpa [au] using h2) (by simpa [bh] using c)
  | _ => simp_all [bc,PyData.eqv,au]
 | .lst xs,u,h,h2,c => by
  cases u with
  | lst ys =>
   simp only [bc,PyData.eqv,PV.lst.injEq]
   exact vp xs ys (by simpa [au] using h) (by simpa [au] using h2) (by simpa [bh] using c)
  | _ => simp_all [bc,PyData.eqv,au]
theorem vp : ∀ (xs ys : List PV),cC xs = true -> cC ys = true -> eQ xs ys = true -> PyData.eqvAll (cH xs) (cH ys) = decide (xs = ys)
 | [],[],_,_,_ => by simp [cH,PyData.eqvAll]
 | [],_ :: _,_,_,_ => by simp [cH,PyData.eqvAll]
 | _ :: _,[],_,_,_ => by simp [cH,PyData.eqvAll]
 | x :: xs,y :: ys,h,h2,c => by
  have h' : au x = true /\ cC xs = true:=by simpa [cC] using h
  have h2' : au y = true /\ cC ys = true:=by simpa [cC] using h2
  have c' : bh x y = true /\ eQ xs ys = true:=by simpa [eQ] using c
  simp only [cH,PyData.eqvAll,o8 x y h'.1 h2'.1 c'.1,vp xs ys h'.2 h2'.2 c'.2,List.cons.injEq,Bool.decide_and]
end
def kN : PV -> PV -> Bool
 | .non,.non => true | .non,.int _ => true | .int _,.non => true | .non,.bl _ => true | .bl _,.non => true | .non,.str _ => true | .str _,.non => true
 | .int _,.int _ => true | .bl _,.bl _ => true | .str _,.str _ => true
 | .int _,.str _ => true | .str _,.int _ => true | .bl _,.str _ => true | .str _,.bl _ => true
 | _,_ => false
theorem nz {F G : Gp} {t u : T} {p q : PV} (rt : cF F G t p) (ru : cF F G u q) (h : kN p q = true) : dq t u = true /\ decide (t = u) = decide (p = q):=by
 cases p <;> cases q <;> first | exact absurd h Bool.false_ne_true | (cases rt; cases ru; refine ⟨rfl,?_⟩; simp)
def Cmp (p q : PV) : Prop:=kN p q = true \/ (au p = true /\ au q = true /\ bh p q = true /\ aJ p <= 62 /\ aJ q <= 62)
theorem xC {neg : Bool} {F G : Gp} {t u : T} {p q : PV} {Φ : QT} (s : Sub F G) (rt : cF F G t p) (ru : cF F G u q) (h : au p = true /\ au q = true /\ bh p q = true /\ aJ p <= 62 /\ aJ q <= 62) (k : Φ (.bl (if neg then !decide (p = q) else decide (p = q))) G) : n5 neg t u G Φ:=by
 obtain ⟨h1,h2,h3,h4,h5⟩:=h
 obtain ⟨d1,c1,e1⟩:=iA h1 (rt.rp s)
 obtain ⟨d2,c2,e2⟩:=iA h2 (ru.rp s)
 refine ⟨_,_,d1,d2,hV c1 (by rw [e1]; omega),hV c2 (by rw [e2]; omega),?_⟩
 rw [o8 p q h1 h2 h3]
 exact k
def eqB : PV -> PV -> (Bool -> Prop) -> Prop:=fun p q k => Cmp p q /\ k (decide (p = q))
def sA : PV -> PV -> (Bool -> Prop) -> Prop:=fun p q k => Cmp p q /\ k (!decide (p = q))
theorem d6 : fg eqT eqB:=fun F G t u p q Ψ Φ s rt ru h k => by
 unfold eqT
 rcases h.1 with z | z
 . obtain ⟨h1,h2⟩:=nz rt ru z
   rw [if_pos h1,h2]
   exact k _ h.2
 . split
   . rename_i h1
     cases hs : kN p q
     . exfalso
       cases p <;> cases q <;> simp_all [kN,cF,dq,bh,au]
       all_goals (first | (obtain ⟨a,ts,e,_⟩:=rt; subst e; simp [dq] at h1) | (obtain ⟨ts,e,_⟩:=rt; subst e; simp [dq] at h1) | (obtain ⟨a,ts,e,_⟩:=ru; subst e; simp [dq] at h1) | (obtain ⟨ts,e,_⟩:=ru; subst e; simp [dq] at h1))
     . rw [(nz rt ru hs).2]
       exact k _ h.2
   . exact xC s rt ru z (k _ h.2)
theorem fy : fg neT sA:=fun F G t u p q Ψ Φ s rt ru h k => by
 unfold neT
 rcases h.1 with z | z
 . obtain ⟨h1,h2⟩:=nz rt ru z
   rw [if_pos h1,h2]
   exact k _ h.2
 . split
   . rename_i h1
     cases hs : kN p q
     . exfalso
       cases p <;> cases q <;> simp_all [kN,cF,dq,bh,au]
       all_goals (first | (obtain ⟨a,ts,e,_⟩:=rt; subst e; simp [dq] at h1) | (obtain ⟨ts,e,_⟩:=rt; subst e; simp [dq] at h1) | (obtain ⟨a,ts,e,_⟩:=ru; subst e; simp [dq] at h1) | (obtain ⟨ts,e,_⟩:=ru; subst e; simp [dq] at h1))
     . rw [(nz rt ru hs).2]
       exact k _ h.2
   . exact xC s rt ru z (k _ h.2)
def si (f : Int -> Int -> Bool) (h : Str -> Str -> Bool) : PV -> PV -> (Bool -> Prop) -> Prop
 | .int i,.int j,k => k (f i j)
 | .str a,.str b,k => k (h a b)
 | _,_,_ => False
theorem dk {f : Int -> Int -> Bool} {h : Str -> Str -> Bool} : fg (iM f h) (si f h):=fun F G t u p q Ψ Φ s rt ru hh k => by
 cases p with
 | int i =>
  cases q with
  | int j => cases rt; cases ru; exact k _ hh
  | _ => exact hh.elim
 | str i =>
  cases q with
  | str j => cases rt; cases ru; exact k _ hh
  | _ => exact hh.elim
 | _ => cases q <;> exact hh.elim
theorem iX {G : Gp} {a : Addr} {ts : List (T × T)} (h : aG G a = some ts) : G a = some (.dic ts) \/ ∃ ob raw,G a = some (.fdic ob raw ts):=by
 unfold aG at h
 split at h
 . rename_i e; cases h; exact .inl e
 . rename_i ob raw _ e; cases h; exact .inr ⟨ob,raw,e⟩
 . cases h
mutual
def ji : PV -> Option NestedKey
 | .non => some .none
 | .bl b => some (.num (if b = true then 1 else 0))
 | .int i => some (.num i)
 | .str x => some (.text x)
 | .tup ps => (kb ps).map NestedKey.tup
 | _ => none
def kb : List PV -> Option (List NestedKey)
 | [] => some []
 | p :: ps => match ji p,kb ps with
  | some k,some ks => some (k :: ks)
  | _,_ => none
end
mutual
theorem pK {F : Gp} : ∀ {p : PV} {t : T},Rp F t p -> bT t = ji p
 | .non,_,r => by cases r; rfl
 | .bl _,_,r => by cases r; rfl
 | .int _,_,r => by cases r; rfl
 | .str _,_,r => by cases r; rfl
 | .ty _,_,r => by cases r; rfl
 | .tup ps,_,r => by
  cases r with
  | tup r => rw [bT,ji,uE r]
 | .lst _,_,r => by cases r; rfl
 | .dic _,_,r => by cases r; rfl
 | .ins _ _,_,r => by cases r; rfl
 | .exc _ _ _,_,r => by cases r; rfl
 | .lam _,_,r => by cases r; rfl
 | .dicN _,_,r => by cases r; rfl
theorem uE {F : Gp} : ∀ {ps : List PV} {ts : List T},RpL F ts ps -> iI ts = kb ps
 | [],_,r => by cases r; rfl
 | p :: ps,_,r => by
  cases r with
  | cons r1 r2 =>
   first
    | (rw [iI,kb,pK r1,uE r2]; done)
    | (rw [iI,kb,pK r1,uE r2]; cases ji p <;> cases kb ps <;> rfl)
end
def k5 : PV -> Option NestedKey
 | .tup ps => match ji (.tup ps) with
  | some k => if k.depth <= 8 then some k else none
  | none => none
 | _ => none
theorem vL {F : Gp} {t : T} {p : PV} {k : NestedKey} (r : Rp F t p) (h : k5 p = some k) : cB t = some k:=by
 cases p with
 | tup ps =>
  have e:=pK r
  obtain ⟨ts,rfl,_⟩ : ∃ ts,t = T.tup ts /\ True:=by cases r; exact ⟨_,rfl,trivial⟩
  unfold cB
  simp only [k5,<- e] at h
  exact h
 | _ => cases h
def fb : List (PV × PV) -> NestedKey -> Option PV
 | [],_ => none
 | (q,p) :: r,k => if ji q = some k then some p else fb r k
theorem RpN.look {F : Gp} {k : NestedKey} : ∀ {ts : List (T × T)} {ps : List (PV × PV)},RpN F ts ps -> (bF ts k = none /\ fb ps k = none) \/ ∃ t p,bF ts k = some t /\ fb ps k = some p /\ Rp F t p
 | _,_,.nil => .inl ⟨rfl,rfl⟩
 | _, _, .cons (k := kt) (q := q) (t := t) (p := p) a b r => by
  have e:=pK a
  by_cases z : ji q = some k
  . exact .inr ⟨t,p,by simp [bF,e,z],by simp [fb,z],b⟩
  . rcases RpN.look (k:=k) r with ⟨h1,h2⟩ | ⟨t',p',h1,h2,h3⟩
    . exact .inl ⟨by simp [bF,e,z,h1],by simp [fb,z,h2]⟩
    . exact .inr ⟨t',p',by simp [bF,e,z,h1],by simp [fb,z,h2],h3⟩
theorem RpN.keysL {F : Gp} : ∀ {ts : List (T × T)} {ps : List (PV × PV)},RpN F ts ps -> RpL F (ts.map (·.1)) (ps.map (·.1))
 | _,_,.nil => .nil
 | _,_,.cons a _ r => .cons a (RpN.keysL r)
theorem sI {G : Gp} {a : Addr} {ts : List (T × T)} (h : eI G a = some ts) : G a = some (.dicN ts) \/ ∃ ob raw,G a = some (.fdicN ob raw ts):=by
 unfold eI at h
 split at h
 . rename_i e; cases h; exact .inl e
 . rename_i ob raw _ e; cases h; exact .inr ⟨ob,raw,e⟩
 . cases h
def uj (neg : Bool) : PV -> PV -> (Bool -> Prop) -> Prop
 | p,.dicN kvs,k => (match k5 p with
  | some y => k (if neg then !(fb kvs y).isSome else (fb kvs y).isSome)
  | none => False)
 | .tup us,.tup ts,k => (au (.tup us) = true /\ aJ (.tup us) <= 62 /\ (∀ x ∈ ts,au x = true /\ bh x (.tup us) = true /\ aJ x <= 61)) /\ k (if neg then !decide (PV.tup us ∈ ts) else decide (PV.tup us ∈ ts))
 | p,.dic kvs,k => (match dU p with
  | some y => k (if neg then !(aV kvs y).isSome else (aV kvs y).isSome)
  | none => False)
 | p,.lst xs,k => (au p = true /\ aJ p <= 62 /\ (∀ x ∈ xs,au x = true /\ bh x p = true /\ aJ x <= 61)) /\ k (if neg then !decide (p ∈ xs) else decide (p ∈ xs))
 | .str x,.str z,k => ∃ c,x = ⟨#[c]⟩ /\ k (if neg then !decide (c ∈ z.cps.toList) else decide (c ∈ z.cps.toList))
 | .str x,.tup ts,k => ∃ ss : List Str,ts = ss.map PV.str /\ k (if neg then !decide (x ∈ ss) else decide (x ∈ ss))
 | _,_,_ => False
theorem gO : ∀ {ts : List PV},cC ts = true ↔ ∀ t ∈ ts,au t = true
 | [] => by simp [cC]
 | t :: ts => by simp [cC,gO (ts:=ts)]
theorem gB : ∀ {ts : List PV} {n : Nat},(∀ t ∈ ts,aJ t <= n) -> cE ts <= n
 | [],_,_ => by simp [cE]
 | t :: ts,n,h => by
  have h1:=h t (by simp)
  have h2:=gB (ts:=ts) (n:=n) fun u hu => h u (by simp [hu])
  simp [cE]; omega
theorem qu {p : PV} (hp : au p = true) : ∀ {xs : List PV},(∀ x ∈ xs,au x = true /\ bh x p = true /\ aJ x <= 61) -> ((cH xs).any fun z => PyData.eqv z (bc p)) = decide (p ∈ xs)
 | [],_ => by simp [cH]
 | x :: xs,h => by
  have hx:=h x (by simp)
  rw [cH,List.any_cons,qu hp (fun y hy => h y (by simp [hy])),o8 x p hx.1 hp hx.2.1]
  by_cases e : p = x
  . subst e; simp
  . have e2 : ¬ x = p:=fun z => e z.symm
    simp [e,e2]
theorem RpL.strs {F : Gp} : ∀ {ts : List T} {ss : List Str},RpL F ts (ss.map PV.str) -> ts = ss.map T.str
 | [],[],_ => rfl
 | v :: vs,s :: ss,h => by
  rw [List.map_cons] at h
  cases h with
  | cons h1 h2 =>
   cases h1
   rw [List.map_cons,RpL.strs h2]
 | [],_ :: _,h => by rw [List.map_cons] at h; cases h
 | _ :: _,[],h => by cases h
theorem jW {neg : Bool} : fg (eB neg) (uj neg):=fun F G t u p q Ψ Φ s rt ru hh k => by
 cases q with
 | dic kvs =>
  obtain ⟨a,ts,rfl,h1,h2⟩:=ru
  have hh : (match dU p with
   | some y => Ψ (if neg then !(aV kvs y).isSome else (aV kvs y).isSome)
   | none => False):=by cases p <;> exact hh
  split at hh
  . rename_i y ey
    obtain ⟨rfl,kt⟩:=lT (rt.rp s) ey
    have e : (aP ts (kT y)).isSome = (aV kvs y).isSome:=by
     rcases h2.look (k:=y) with ⟨e1,e2⟩ | ⟨t,p,e1,e2,_⟩ <;> rw [e1,e2] <;> rfl
    have fin : Φ (.bl (if neg then !(aP ts (kT y)).isSome else (aP ts (kT y)).isSome)) G:=by rw [e]; exact k _ hh
    rcases iX h1 with h1 | ⟨ob,raw,h1⟩
    . have : eB neg (kT y) (.ref a) G Φ = (match bK (kT y) with
        | some _ => Φ (.bl (if neg then !(aP ts (kT y)).isSome else (aP ts (kT y)).isSome)) G
        | none => False):=by cases y <;> simp only [kT,eB,h1] <;> rfl
      rw [this,kt]
      exact fin
    . have : eB neg (kT y) (.ref a) G Φ = (match bK (kT y) with
        | some _ => Φ (.bl (if neg then !(aP ts (kT y)).isSome else (aP ts (kT y)).isSome)) G
        | none => False):=by cases y <;> simp only [kT,eB,h1] <;> rfl
      rw [this,kt]
      exact fin
  . exact hh.elim
 | lst xs =>
  have hh : (au p = true /\ aJ p <= 62 /\ (∀ x ∈ xs,au x = true /\ bh x p = true /\ aJ x <= 61)) /\ Ψ (if neg then !decide (p ∈ xs) else decide (p ∈ xs)):=by cases p <;> exact hh
  obtain ⟨⟨h1,h2,h3⟩,hh⟩:=hh
  have ru2:=ru.rp s
  obtain ⟨a,ts,rfl,h4,_⟩:=ru
  obtain ⟨d1,c1,e1⟩:=iA h1 (rt.rp s)
  have hq : au (.lst xs) = true:=by rw [au]; exact gO.mpr fun x hx => (h3 x hx).1
  obtain ⟨d2,c2,e2⟩:=iA hq ru2
  have hd : aJ (.lst xs) <= 62:=by rw [aJ]; have:=gB fun x hx => (h3 x hx).2.2; omega
  have goal : ∃ d ds,Dat G t d /\ Dat G (.ref a) (.list ds) /\ SeqAt.shaped d = true /\ SeqAt.shaped (.list ds) = true /\ Φ (.bl (if neg then !ds.any fun z => PyData.eqv z d else ds.any fun z => PyData.eqv z d)) G:=by
   refine ⟨bc p,cH xs,d1,by simpa [bc] using d2,hV c1 (by rw [e1]; omega),hV (by simpa [bc] using c2) (by have:=e2; simp only [bc] at this; rw [this]; omega),?_⟩
   rw [qu h1 h3]
   exact k _ hh
  have : eB neg t (.ref a) G Φ = ∃ d ds,Dat G t d /\ Dat G (.ref a) (.list ds) /\ SeqAt.shaped d = true /\ SeqAt.shaped (.list ds) = true /\ Φ (.bl (if neg then !ds.any fun z => PyData.eqv z d else ds.any fun z => PyData.eqv z d)) G:=by
   cases t <;> simp only [eB,h4]
  rw [this]
  exact goal
 | str z =>
  cases p with
  | str x =>
   cases rt; cases ru
   obtain ⟨c,rfl,hh⟩:=hh
   exact ⟨c,rfl,k _ hh⟩
  | _ => exact hh.elim
 | dicN kvs =>
  obtain ⟨a,ts,rfl,h1,h2⟩:=ru
  have hh : (match k5 p with
   | some y => Ψ (if neg then !(fb kvs y).isSome else (fb kvs y).isSome)
   | none => False):=by cases p <;> exact hh
  split at hh
  . rename_i y ey
    have kt:=vL (rt.rp s) ey
    have e : (bF ts y).isSome = (fb kvs y).isSome:=by
     rcases h2.look (k:=y) with ⟨e1,e2⟩ | ⟨t,p,e1,e2,_⟩ <;> rw [e1,e2] <;> rfl
    have fin : Φ (.bl (if neg then !(bF ts y).isSome else (bF ts y).isSome)) G:=by rw [e]; exact k _ hh
    rcases sI h1 with h1 | ⟨ob,raw,h1⟩
    . have : eB neg t (.ref a) G Φ = (match cB t with
        | some k => Φ (.bl (if neg then !(bF ts k).isSome else (bF ts k).isSome)) G
        | none => False):=by cases t <;> simp only [eB,h1] <;> rfl
      rw [this,kt]
      exact fin
    . have : eB neg t (.ref a) G Φ = (match cB t with
        | some k => Φ (.bl (if neg then !(bF ts k).isSome else (bF ts k).isSome)) G
        | none => False):=by cases t <;> simp only [eB,h1] <;> rfl
      rw [this,kt]
      exact fin
  . exact hh.elim
 | tup xs =>
  cases p with
  | str x =>
   obtain ⟨ts,rfl,r⟩:=ru
   cases rt
   obtain ⟨ss,rfl,hh⟩:=hh
   have e:=r.strs
   subst e
   exact ⟨ss,rfl,k _ hh⟩
  | tup us =>
   obtain ⟨⟨h1,h2,h3⟩,hh⟩:=hh
   have ru2:=ru.rp s
   have rt2:=rt.rp s
   obtain ⟨ts,rfl,_⟩:=ru
   obtain ⟨us',rfl,_⟩:=rt
   obtain ⟨d1,c1,e1⟩:=iA h1 rt2
   have hq : au (.tup xs) = true:=by rw [au]; exact gO.mpr fun x hx => (h3 x hx).1
   obtain ⟨d2,c2,e2⟩:=iA hq ru2
   have hd : aJ (.tup xs) <= 62:=by rw [aJ]; have:=gB fun x hx => (h3 x hx).2.2; omega
   refine ⟨bc (.tup us),cH xs,d1,by simpa [bc] using d2,hV c1 (by rw [e1]; omega),hV (by simpa [bc] using c2) (by have:=e2; simp only [bc] at this; rw [this]; omega),?_⟩
   rw [qu h1 h3]
   exact k _ hh
  | _ => exact hh.elim
 | _ => cases p <;> exact hh.elim
def oA : PV -> PV -> (Cell -> Prop) -> Prop
 | .int i,.int j,k => k (.fr (.int (i + j)))
 | .str a,.str b,k => a.length + b.length <= sizeLine /\ k (.fr (.str (a ++ b)))
 | .tup xs,.tup ys,k => xs.length + ys.length <= sizeLine /\ k (.fr (.tup (xs ++ ys)))
 | .lst xs,.lst ys,k => xs.length + ys.length <= sizeLine /\ k (.ow (.lst (xs ++ ys)))
 | _,_,_ => False
theorem jV : j5 jP oA:=fun F G t u p q Ψ Φ s rt ru hh k => by
 cases p with
 | int i =>
  cases q with
  | int j => cases rt; cases ru; exact k _ _ _ aB hh .no (.int _)
  | _ => exact hh.elim
 | str i =>
  cases q with
  | str j => cases rt; cases ru; exact ⟨hh.1,k _ _ _ aB hh.2 .no (.str _)⟩
  | _ => exact hh.elim
 | tup xs =>
  cases q with
  | tup ys =>
   obtain ⟨ts,rfl,r⟩:=rt
   obtain ⟨us,rfl,r2⟩:=ru
   exact ⟨by rw [r.length,r2.length]; exact hh.1,k _ _ _ aB hh.2 .no (.tup (r.app r2))⟩
  | _ => exact hh.elim
 | lst xs =>
  cases q with
  | lst ys =>
   obtain ⟨a,ts,rfl,h1,r⟩:=rt
   obtain ⟨b,us,rfl,h2,r2⟩:=ru
   simp only [jP,h1,h2]
   exact ⟨by rw [List.length_append,r.length,r2.length]; exact hh.1,fun p hp => k _ _ _ _ hh.2 (Fresh.new hp) ⟨p,_,rfl,rfl,r.app r2⟩⟩
  | _ => exact hh.elim
 | _ => cases q <;> exact hh.elim
def ig : PV -> PV -> (Cell -> Prop) -> Prop
 | .tup xs,.int i,k => (match atI xs i with
  | some p => k (.fr p)
  | none => False)
 | .lst xs,.int i,k => (match atI xs i with
  | some p => k (.fr p)
  | none => False)
 | .str z,.int i,k => z.length <= sizeLine /\ (match atI z.cps.toList i with
  | some c => k (.fr (.str ⟨#[c]⟩))
  | none => False)
 | .dic kvs,q,k => (match dU q with
  | some y => (match aV kvs y with
   | some p => k (.fr p)
   | none => False)
  | none => False)
 | .dicN kvs,q,k => (match k5 q with
  | some y => (match fb kvs y with
   | some p => k (.fr p)
   | none => False)
  | none => False)
 | _,_,_ => False
theorem RpL.at {F : Gp} {ts : List T} {ps : List PV} {i : Int} {p : PV} (r : RpL F ts ps) (h : atI ps i = some p) : ∃ t,atI ts i = some t /\ Rp F t p:=by
 unfold atI at h ⊢
 rw [r.length]
 cases q : ixN ps.length i with
 | none => rw [q] at h; cases h
 | some j =>
  rw [q] at h
  exact r.get h
theorem aS : j5 cg ig:=fun F G t u p q Ψ Φ s rt ru hh k => by
 cases p with
 | tup xs =>
  cases q with
  | int i =>
   obtain ⟨ts,rfl,r⟩:=rt
   cases ru
   simp only [ig] at hh
   split at hh
   . rename_i p e
     obtain ⟨t,e1,e2⟩:=r.at e
     simp only [cg,e1]
     exact k _ _ _ aB hh .no e2
   . exact hh.elim
  | _ => exact hh.elim
 | lst xs =>
  cases q with
  | int i =>
   obtain ⟨a,ts,rfl,h1,r⟩:=rt
   cases ru
   simp only [ig] at hh
   split at hh
   . rename_i p e
     obtain ⟨t,e1,e2⟩:=r.at e
     simp only [cg,h1,e1]
     exact k _ _ _ aB hh .no e2
   . exact hh.elim
  | _ => exact hh.elim
 | str z =>
  cases q with
  | int i =>
   cases rt; cases ru
   simp only [ig] at hh
   obtain ⟨h0,hh⟩:=hh
   split at hh
   . rename_i c e
     simp only [cg,e]
     exact ⟨h0,k _ _ _ aB hh .no (.str _)⟩
   . exact hh.elim
  | _ => exact hh.elim
 | dic kvs =>
  obtain ⟨a,ts,rfl,h1,r⟩:=rt
  simp only [ig] at hh
  split at hh
  . rename_i y ey
    obtain ⟨rfl,kt⟩:=lT (ru.rp s) ey
    split at hh
    . rename_i p ep
      rcases r.look (k:=y) with ⟨_,e2⟩ | ⟨t,p',e1,e2,e3⟩
      . rw [e2] at ep; cases ep
      . rw [e2] at ep
        cases ep
        have fin:=k _ t _ aB hh .no e3
        rcases iX h1 with h1 | ⟨ob,raw,h1⟩
        . simp only [cg,h1,kt,e1]; exact fin
        . simp only [cg,h1,kt,e1]; exact fin
    . exact hh.elim
  . exact hh.elim
 | dicN kvs =>
  obtain ⟨a,ts,rfl,h1,r⟩:=rt
  simp only [ig] at hh
  split at hh
  . rename_i y ey
    have kt:=vL (ru.rp s) ey
    split at hh
    . rename_i p ep
      rcases r.look (k:=y) with ⟨_,e2⟩ | ⟨t,p',e1,e2,e3⟩
      . rw [e2] at ep; cases ep
      . rw [e2] at ep
        cases ep
        have fin:=k _ t _ aB hh .no e3
        rcases sI h1 with h1 | ⟨ob,raw,h1⟩
        . simp only [cg,h1,kt,e1]; exact fin
        . simp only [cg,h1,kt,e1]; exact fin
    . exact hh.elim
  . exact hh.elim
 | _ => cases q <;> exact hh.elim
def rn : List PV -> (Cell -> Prop) -> Prop
 | [.str s],k => s.length <= sizeLine /\ k (.fr (.int (s.length : Int)))
 | [.tup xs],k => k (.fr (.int (xs.length : Int)))
 | [.lst xs],k => k (.fr (.int (xs.length : Int)))
 | [.dic xs],k => k (.fr (.int (xs.length : Int)))
 | [.dicN xs],k => k (.fr (.int (xs.length : Int)))
 | _,_ => False
theorem gK.one {F G : Gp} {ts : List T} {p : PV} (h : gK F G ts [p]) : ∃ t,ts = [t] /\ cF F G t p:=by
 match ts,h with
 | [t],h => exact ⟨t,rfl,h.1⟩
theorem gK.two {F G : Gp} {ts : List T} {p q : PV} (h : gK F G ts [p,q]) : ∃ t u,ts = [t,u] /\ cF F G t p /\ cF F G u q:=by
 match ts,h with
 | [t,u],h => exact ⟨t,u,rfl,h.1,h.2.1⟩
theorem dB : fU ee rn:=fun F G ts ps Ψ Φ s r hh k => by
 match ps,hh with
 | [.str x],hh => obtain ⟨t,rfl,r'⟩:=r.one; cases r'; exact ⟨hh.1,k _ _ _ aB hh.2 .no (.int _)⟩
 | [.tup xs],hh => obtain ⟨t,rfl,us,rfl,r'⟩:=r.one; simp only [ee]; rw [r'.length]; exact k _ _ _ aB hh .no (.int _)
 | [.lst xs],hh => obtain ⟨t,rfl,a,us,rfl,h1,r'⟩:=r.one; simp only [ee,h1]; rw [r'.length]; exact k _ _ _ aB hh .no (.int _)
 | [.dic xs],hh =>
  obtain ⟨t,rfl,a,us,rfl,h1,r'⟩:=r.one
  rcases iX h1 with h1 | ⟨ob,raw,h1⟩
  . simp only [ee,h1]; rw [r'.length]; exact k _ _ _ aB hh .no (.int _)
  . simp only [ee,h1]; rw [r'.length]; exact k _ _ _ aB hh .no (.int _)
 | [.dicN xs],hh =>
  obtain ⟨t,rfl,a,us,rfl,h1,r'⟩:=r.one
  rcases sI h1 with h1 | ⟨ob,raw,h1⟩
  . simp only [ee,h1]; rw [r'.length]; exact k _ _ _ aB hh .no (.int _)
  . simp only [ee,h1]; rw [r'.length]; exact k _ _ _ aB hh .no (.int _)
def rq : List PV -> (Cell -> Prop) -> Prop
 | [.tup xs],k => k (.ow (.lst xs))
 | [.lst xs],k => k (.ow (.lst xs))
 | _,_ => False
theorem nU : fU jm rq:=fun F G ts ps Ψ Φ s r hh k => by
 match ps,hh with
 | [.tup xs],hh => obtain ⟨t,rfl,us,rfl,r'⟩:=r.one; exact fun p hp => k _ _ _ _ hh (Fresh.new hp) ⟨p,_,rfl,rfl,r'⟩
 | [.lst xs],hh => obtain ⟨t,rfl,a,us,rfl,h1,r'⟩:=r.one; simp only [jm,h1]; exact fun p hp => k _ _ _ _ hh (Fresh.new hp) ⟨p,_,rfl,rfl,r'⟩
def tupP : List PV -> (Cell -> Prop) -> Prop
 | [.tup xs],k => k (.fr (.tup xs))
 | [.lst xs],k => k (.fr (.tup xs))
 | _,_ => False
theorem gZ : fU iN tupP:=fun F G ts ps Ψ Φ s r hh k => by
 match ps,hh with
 | [.tup xs],hh => obtain ⟨t,rfl,us,rfl,r'⟩:=r.one; exact k _ _ _ aB hh .no (.tup r')
 | [.lst xs],hh => obtain ⟨t,rfl,a,us,rfl,h1,r'⟩:=r.one; simp only [iN,h1]; exact k _ _ _ aB hh .no (.tup r')
theorem kO {F : Gp} : ∀ ss : List Str,RpL F (ss.map T.str) (ss.map PV.str)
 | [] => .nil
 | s :: ss => .cons (.str s) (kO ss)
def sS : List PV -> (Cell -> Prop) -> Prop
 | [.lst xs],k => ∃ ss : List Str,xs = ss.map PV.str /\ ss.length < 64 /\ ∀ ys,ys.Perm ss -> PyProof.Rows.sortedS ys = true -> k (.ow (.lst (ys.map PV.str)))
 | [.dic kvs],k => ∃ ss : List Str,kvs.map (·.1) = ss.map Sum.inr /\ ss.length < 64 /\ ∀ ys,ys.Perm ss -> PyProof.Rows.sortedS ys = true -> k (.ow (.lst (ys.map PV.str)))
 | _,_ => False
theorem jY : fU gI sS:=fun F G ts ps Ψ Φ s r hh k => by
 match ps,hh with
 | [.lst xs],hh =>
  obtain ⟨t,rfl,a,us,rfl,h1,r'⟩:=r.one
  obtain ⟨ss,rfl,hl,hh⟩:=hh
  have e:=r'.strs
  subst e
  simp only [gI,h1]
  exact ⟨ss,rfl,hl,fun ys p h2 h3 hp => k _ _ _ _ (hh ys h2 h3) (Fresh.new hp) ⟨p,_,rfl,rfl,kO ys⟩⟩
 | [.dic kvs],hh =>
  obtain ⟨t,rfl,a,us,rfl,h1,r'⟩:=r.one
  obtain ⟨ss,e,hl,hh⟩:=hh
  have ek : us.map (·.1) = ss.map T.str:=by
   rw [r'.keys]
   have : (kvs.map fun kv => kT kv.1) = (kvs.map (·.1)).map kT:=by rw [List.map_map]; rfl
   rw [this,e,List.map_map]
   rfl
  rcases iX h1 with h1 | ⟨ob,raw,h1⟩
  . simp only [gI,h1]
    exact ⟨ss,ek,hl,fun ys p h2 h3 hp => k _ _ _ _ (hh ys h2 h3) (Fresh.new hp) ⟨p,_,rfl,rfl,kO ys⟩⟩
  . simp only [gI,h1]
    exact ⟨ss,ek,hl,fun ys p h2 h3 hp => k _ _ _ _ (hh ys h2 h3) (Fresh.new hp) ⟨p,_,rfl,rfl,kO ys⟩⟩
def fK : List PV -> Option (List (Key × PV))
 | [] => some []
 | .tup [y,v] :: r => (match dU y,fK r with
  | some y,some ps => some ((y,v) :: ps)
  | _,_ => none)
 | _ => none
def gG (kvs more : List (Key × PV)) : List (Key × PV):=more.foldl (fun acc kv => eF acc kv.1 kv.2) kvs
theorem RpD.merge {F : Gp} {ms : List (T × T)} {ns : List (Key × PV)} (m : RpD F ms ns) : ∀ {vs : List (T × T)} {ts : List (Key × PV)},RpD F vs ts -> RpD F (jE vs ms) (gG ts ns):=by
 induction ms generalizing ns with
 | nil => cases m; intro vs ts r; exact r
 | cons h hs ih =>
  cases m with
  | cons h1 h2 => intro vs ts r; exact ih h2 (r.put h1)
theorem xB {F : Gp} : ∀ {xs : List PV} {ts : List T} {ps : List (Key × PV)},RpL F ts xs -> fK xs = some ps -> ∃ us,gr ts = some us /\ RpD F us ps
 | [],_,_,.nil,e => by cases e; exact ⟨[],rfl,.nil⟩
 | .tup [y,v] :: r,_,ps,.cons h hs,e => by
  simp only [fK] at e
  split at e
  . rename_i y' ps' ey ep
    cases e
    cases h with
    | tup h =>
     cases h with
     | cons h1 h2 =>
      cases h2 with
      | cons h2 h3 =>
       cases h3
       obtain ⟨us,e1,e2⟩:=xB hs ep
       obtain ⟨rfl,kt⟩:=lT h1 ey
       exact ⟨_,by simp only [gr,kt,e1],.cons h2 e2⟩
  . cases e
def nQ : List PV -> (Cell -> Prop) -> Prop
 | [.lst xs],k => (match fK xs with
  | some ps => k (.ow (.dic (gG [] ps)))
  | none => False)
 | [.dic kvs],k => k (.ow (.dic kvs))
 | _,_ => False
theorem om : fU fF nQ:=fun F G ts ps Ψ Φ s r hh k => by
 match ps,hh with
 | [.lst xs],hh =>
  obtain ⟨t,rfl,a,us,rfl,h1,r'⟩:=r.one
  simp only [nQ] at hh
  split at hh
  . rename_i ps e
    obtain ⟨vs,e1,e2⟩:=xB r' e
    simp only [fF,h1,e1]
    exact fun p hp => k _ _ _ _ hh (Fresh.new hp) ⟨p,_,rfl,rfl,e2.merge .nil⟩
  . exact hh.elim
 | [.dic kvs],hh =>
  obtain ⟨t,rfl,a,us,rfl,h1,r'⟩:=r.one
  rcases iX h1 with h1 | ⟨ob,raw,h1⟩
  . simp only [fF,h1]; exact fun p hp => k _ _ _ _ hh (Fresh.new hp) ⟨p,_,rfl,rfl,r'⟩
  . simp only [fF,h1]; exact fun p hp => k _ _ _ _ hh (Fresh.new hp) ⟨p,_,rfl,rfl,r'⟩
def rm : List PV -> (Cell -> Prop) -> Prop
 | [p,.ty n],k => n ∈ cN /\ (match tyP p with
  | some m => k (.fr (.bl (aQ m n)))
  | none => False)
 | _,_ => False
theorem dX : fU jF rm:=fun F G ts ps Ψ Φ s r hh k => by
 match ps,hh with
 | [p,.ty n],hh =>
  obtain ⟨t,u,rfl,r1,r2⟩:=r.two
  cases r2
  obtain ⟨h1,hh⟩:=hh
  refine ⟨h1,?_⟩
  split at hh
  . rename_i m e
    rw [qP r1 e]
    exact k _ _ _ aB hh .no (.bl _)
  . exact hh.elim
end Vl
noncomputable section
namespace Vl
open PySem L2 Dv
variable [Dv.Wld]
structure VEnds where
 nx : SV -> Prop
 rt : RV -> SV -> Prop
 bk : SV -> Prop:=fun _ => False
 ct : SV -> Prop:=fun _ => False
abbrev VS:=VEnds -> SV -> Prop
structure VOk (fx : Fx) (F : Gp) (VL : VEnds) (L : LEnds) : Prop where
 nx : ∀ S' G' σ' F' own',VL.nx σ' -> Ext F F' -> VRel fx F' own' S' G' σ' -> L.nx S' G'
 rt : ∀ r σ' F' own' S' G' t,VL.rt r σ' -> Ext F F' -> VRel fx F' own' S' G' σ' -> du fx F' own' S' G' t r -> L.rt t G'
 bk : ∀ S' G' σ' F' own',VL.bk σ' -> Ext F F' -> VRel fx F' own' S' G' σ' -> L.bk S' G'
 ct : ∀ S' G' σ' F' own',VL.ct σ' -> Ext F F' -> VRel fx F' own' S' G' σ' -> L.ct S' G'
theorem VOk.step {fx : Fx} {F F1 : Gp} {VL : VEnds} {L : LEnds} (e : VOk fx F VL L) (x : Ext F F1) : VOk fx F1 VL L :=
 ⟨fun S G σ F' o' a b c => e.nx S G σ F' o' a (x.trans b) c,fun r σ F' o' S G t a b c d => e.rt r σ F' o' S G t a (x.trans b) c d,fun S G σ F' o' a b c => e.bk S G σ F' o' a (x.trans b) c,fun S G σ F' o' a b c => e.ct S G σ F' o' a (x.trans b) c⟩
def gQ (N : Nat) (io : Io) (vs : VS) : LS:=fun L S G => ∃ w F own σ VL,VRel (ak N io w) F own S G σ /\ vs VL σ /\ VOk (ak N io w) F VL L
def cS (en : En) (X : Cx) (io : Io) (s : Stmt) (vs : VS) : Prop:=Es en X s (gQ X.N.length io vs)
def dG (en : En) (X : Cx) (io : Io) (s : List Stmt) (vs : VS) : Prop:=dj en X s (gQ X.N.length io vs)
section
variable {en : En} {X : Cx} {io : Io} {a b c e o tg iter : Expr} {es ifs : List Expr} {st : Stmt} {ss ss2 : List Stmt} {va vb vc : VE} {vt : VT} {vs ws : VS} {pos : Pos}
theorem eU {l l' : LS} (h : Es en X st l) (w : ∀ L S G,l' L S G -> l L S G) : Es en X st l':=PS.weak h fun D σ H ⟨S,G,L,s,g,q,e⟩ => ⟨S,G,L,s,g,w L S G q,e⟩
theorem uT {l l' : LS} (h : dj en X ss l) (w : ∀ L S G,l' L S G -> l L S G) : dj en X ss l':=PSs.weak h fun D σ H ⟨S,G,L,s,g,q,e⟩ => ⟨S,G,L,s,g,w L S G q,e⟩
def vNext : VS:=fun L σ => L.nx σ
def nJ (a b : VS) : VS:=fun L σ => a ⟨fun σ' => b L σ',L.rt,L.bk,L.ct⟩ σ
def uP (va : VE) : VS:=fun L σ => va σ fun _ σ1 => L.nx σ1
def sQ (va : VE) : VS:=fun L σ => va σ L.rt
def oY (c : VT) (a b : VS) : VS:=fun L σ => c σ fun k σ1 => if k = true then a L σ1 else b L σ1
def adt : VS:=fun _ _ => False
theorem bB : dG en X io [] vNext:=uT j8 fun L S G ⟨w,F,own,σ,VL,g,q,k⟩ => k.nx _ _ _ _ _ q .refl g
theorem kE : cS en X io st adt:=eU wj fun L S G ⟨w,F,own,σ,VL,g,q,k⟩ => q.elim
theorem aq (h : cS en X io st vs) : dG en X io [st] vs:=ei h
theorem aF (h : cS en X io st vs) (hr : dG en X io ss ws) : dG en X io (st :: ss) (nJ vs ws):=uT (cX h hr) fun L S G ⟨w,F,own,σ,VL,g,q,k⟩ =>
 ⟨w,F,own,σ,_,g,q,⟨fun S' G' σ' F' own' q' x' g' => ⟨G',Sub.refl _,w,F',own',σ',VL,g',q',k.step x'⟩,k.rt,k.bk,k.ct⟩⟩
theorem eE (h : Ev en X io e va) (hs : swapsWith e none pos.line X.env = pure false:=by rfl) : cS en X io (.Expr e pos) (uP va):=eU (pQ h hs) fun L S G ⟨w,F,own,σ,VL,g,q,k⟩ =>
 ⟨w,F,own,σ,_,g,q,fun r σ1 F1 own1 G1 t q1 x1 g1 r1 => k.nx _ _ _ _ _ q1 x1 g1⟩
theorem aZ (h : Ev en X io e va) : cS en X io (.Return (some e) pos) (sQ va):=eU (s_ret h) fun L S G ⟨w,F,own,σ,VL,g,q,k⟩ =>
 ⟨w,F,own,σ,_,g,q,fun r σ1 F1 own1 G1 t q1 x1 g1 r1 => k.rt _ _ _ _ _ _ _ q1 x1 g1 r1⟩
theorem bq (hc : dS en X io c vt) (ha : dG en X io ss vs) (hb : dG en X io ss2 ws) : cS en X io (.If c ss ss2 pos) (oY vt vs ws):=eU (s_if hc ha hb) fun L S G ⟨w,F,own,σ,VL,g,q,k⟩ => by
 refine ⟨w,F,own,σ,_,g,q,fun d σ1 F1 own1 G1 q1 x1 g1 => ?_⟩
 cases d with
 | true => exact ⟨w,F1,own1,σ1,VL,g1,q1,k.step x1⟩
 | false => exact ⟨w,F1,own1,σ1,VL,g1,q1,k.step x1⟩
def GV (N : Nat) (io : Io) (f : T -> S2 -> Option S2) (fv : PV -> SV -> Option SV) : Prop:=∀ w F own S G σ t p σ',VRel (ak N io w) F own S G σ -> Rp F t p -> fv p σ = some σ' -> ∃ S' own',f t S = some S' /\ VRel (ak N io w) F own' S' G σ'
def GVs (N : Nat) (io : Io) (f : List T -> S2 -> Option S2) (fv : List PV -> SV -> Option SV) : Prop:=∀ w F own S G σ t p σ',VRel (ak N io w) F own S G σ -> RpL F t p -> fv p σ = some σ' -> ∃ S' own',f t S = some S' /\ VRel (ak N io w) F own' S' G σ'
structure Egv (X : Cx) (io : Io) (tg : Expr) (f : T -> S2 -> Option S2) (fv : PV -> SV -> Option SV) (vs : List Nat) : Prop where
 eg : Eg X tg f vs
 gv : GV X.N.length io f fv
structure Egvs (X : Cx) (io : Io) (tg : List Expr) (f : List T -> S2 -> Option S2) (fv : List PV -> SV -> Option SV) (vs : List Nat) : Prop where
 eg : lh X tg f vs
 gv : GVs X.N.length io f fv
def qc (j : Nat) : PV -> SV -> Option SV:=fun p σ => some (ac σ j (some (.fr p)))
def rT : List PV -> SV -> Option SV:=fun ps σ => match ps with
 | [] => some σ
 | _ => none
def pj (f : PV -> SV -> Option SV) (r : List PV -> SV -> Option SV) : List PV -> SV -> Option SV:=fun ps σ => match ps with
 | p :: ps => (match f p σ with
  | some σ' => r ps σ'
  | none => none)
 | [] => none
def nA (n : Nat) (f : List PV -> SV -> Option SV) : PV -> SV -> Option SV:=fun p σ => match p with
 | .tup ps => if ps.length = n then f ps σ else none
 | _ => none
theorem k9 {N : List Str} {j : Nat} {x : Str} (h : N[j]? = some x) : j < N.length:=by
 rcases Nat.lt_or_ge j N.length with h1 | h1
 . exact h1
 . rw [List.getElem?_eq_none h1] at h; cases h
theorem bD {j : Nat} {x : Str} (hN : X.N.Nodup) (hi : X.N[j]? = some x) (hx : Loc X.env.scope x) (hf : X.fn x = true \/ X.env.scope.names.lookup x = some .local:=by first | exact .inl rfl | exact .inr rfl | assumption) (hio : j ∉ io:=by first | decide | exact mq (by decide)) : Egv X io (.Name x pos) (gN j) (qc j) [j] :=
 ⟨gm hN hi hx hf,fun w F own S G σ t p σ' g r e => by
  cases e
  exact ⟨_,_,rfl,g.put (H:=aB) .nil (k9 hi) hio (c:=.fr p) r⟩⟩
theorem oF : Egvs X io [] ml rT []:=⟨aeA,fun w F own S G σ t p σ' g r e => by
 cases r with
 | nil => cases e; exact ⟨_,own,rfl,g⟩
 | cons _ _ => cases e⟩
theorem i3 {f : T -> S2 -> Option S2} {r : List T -> S2 -> Option S2} {fv : PV -> SV -> Option SV} {rv : List PV -> SV -> Option SV} {us ws : List Nat} (h : Egv X io e f fv us) (hr : Egvs X io es r rv ws)
 (he : (assignEach (e :: es) X.env).map (·.2) = assign e X.env :: (assignEach es X.env).map (·.2):=by rfl) : Egvs X io (e :: es) (iU f r) (pj fv rv) (us ++ ws) :=
 ⟨aaA h.eg hr.eg he,fun w F own S G σ t p σ' g rp e => by
  cases rp with
  | nil => cases e
  | cons r1 r2 =>
   simp only [pj] at e
   split at e
   . rename_i σ1 e1
     obtain ⟨S1,own1,f1,g1⟩:=h.gv _ _ _ _ _ _ _ _ _ g r1 e1
     obtain ⟨S2,own2,f2,g2⟩:=hr.gv _ _ _ _ _ _ _ _ _ g1 r2 e
     exact ⟨S2,own2,by simp only [iU,f1]; exact f2,g2⟩
   . cases e⟩
theorem nB {f : List T -> S2 -> Option S2} {fv : List PV -> SV -> Option SV} {us : List Nat} {n k : Nat} (hc : X.calm = true) (h : Egvs X io es f fv us)
 (hn : (assignEach es X.env).length = n:=by rfl) (hst : (assignEach es X.env).findIdx? (·.1) = none:=by rfl) : Egv X io (.Tuple es k pos) (gT n f) (nA n fv) us :=
 ⟨aeo hc h.eg hn hst,fun w F own S G σ t p σ' g rp e => by
  cases rp with
  | tup r =>
   simp only [nA] at e
   split at e
   . rename_i hl
     obtain ⟨S1,own1,f1,g1⟩:=h.gv _ _ _ _ _ _ _ _ _ g r e
     exact ⟨S1,own1,by simp only [gT,if_pos (r.length.trans hl)]; exact f1,g1⟩
   . cases e
  | _ => cases e⟩
def mE (j : Nat) (va : VE) : VS:=fun L σ => va σ fun r σ1 => match giv σ1 r with
 | some (c,σ2) => L.nx (ac σ2 j (some c))
 | none => False
theorem zb {N : Nat} {j : Nat} (hj : j < N) (hio : j ∉ io) : ∀ L S G,gQ N io (mE j va) L S G -> lM (bJ N io va) (gN j) L S G:=fun L S G ⟨w,F,own,σ,VL,g,q,k⟩ => by
 refine ⟨w,F,own,σ,_,g,q,fun r σ1 F1 own1 G1 t q1 x1 g1 r1 => ?_⟩
 split at q1
 . rename_i c σ2 e
   obtain ⟨F2,own2,H,g2,x2,h1,h2⟩:=g1.giv r1 e
   exact k.nx _ _ _ _ _ q1 (x1.trans x2) (g2.put h2 hj hio h1)
 . exact q1.elim
theorem eP {j : Nat} {x : Str} {pos' : Pos} (hN : X.N.Nodup) (hi : X.N[j]? = some x) (hx : Loc X.env.scope x) (he : Ev en X io e va) (hs : swapsWith e (some (.Name x pos')) pos.line X.env = pure false:=by rfl)
 (hf : X.fn x = true \/ X.env.scope.names.lookup x = some .local:=by first | exact .inl rfl | exact .inr rfl | assumption) (hio : j ∉ io:=by first | decide | exact mq (by decide)) : cS en X io (.Assign [.Name x pos'] e pos) (mE j va):=eU (fu hN hi hx he hs hf) (zb (k9 hi) hio)
def qt (j k : Nat) (va vb : VE) : VS:=fun L σ => va σ fun r1 σ1 => vb σ1 fun r2 σ2 => match giv σ2 r1 with
 | some (c1,σ3) => (match giv σ3 r2 with
  | some (c2,σ4) => L.nx (ac (ac σ4 j (some c1)) k (some c2))
  | none => False)
 | none => False
theorem zz {j k : Nat} {x y : Str} {px py pt : Pos} {kt k2 : Nat} {pt2 : Pos} (hc : X.calm = true) (hN : X.N.Nodup) (hi : X.N[j]? = some x) (hj : X.N[k]? = some y) (hij : j ≠ k)
 (hx : X.env.scope.names.lookup x = some .local) (hy : X.env.scope.names.lookup y = some .local) (ha : Ev en X io a va) (hb : Ev en X io b vb)
 (hw : swappedStores [.Tuple [.Name x px,.Name y py] kt pt] (.Tuple [a,b] k2 pt2) X.env = pure (some [x,y]))
 (hs : swapsWithSole [.Tuple [.Name x px,.Name y py] kt pt] (.Tuple [a,b] k2 pt2) pos.line X.env = pure false:=by rfl) (hio : j ∉ io:=by first | decide | exact mq (by decide)) (hio2 : k ∉ io:=by first | decide | exact mq (by decide))
 (hs1 : starEach [a,b] X.env = (false,eval a X.env) :: starEach [b] X.env:=by rfl) (hs2 : starEach [b] X.env = (false,eval b X.env) :: starEach [] X.env:=by rfl) : cS en X io (.Assign [.Tuple [.Name x px,.Name y py] kt pt] (.Tuple [a,b] k2 pt2) pos) (qt j k va vb):=by
 refine eU (yy hc hN hi hj hij hx hy (ea_cons ha (ea_cons hb ea_nil hs2) hs1) hw hs) fun L S G ⟨w,F,own,σ,VL,g,q,kk⟩ => ?_
 have fin : ∀ {F3 : Gp} {own3 : Nat -> Gp} {S : S2} {G : Gp} {σ4 : SV} {c1 c2 : Cell} {t u : T} {H1 H2 : Gp},VRel (ak X.N.length io w) F3 own3 S G σ4 -> bu F3 H1 t c1 -> bu F3 H2 u c2 -> Tmp (ak X.N.length io w) F3 own3 G H1 -> Tmp (ak X.N.length io w) F3 own3 G H2 -> (∀ a,H2 a ≠ none -> H1 a = none) ->
     ∃ own',VRel (ak X.N.length io w) F3 own' ((S.set j (some t)).set k (some u)) G (ac (ac σ4 j (some c1)) k (some c2)):=by
  intro F3 own3 S G σ4 c1 c2 t u H1 H2 g3 c1r c2r m1 m2 hd
  have g4:=g3.put m1 (k9 hi) hio c1r
  exact ⟨_,g4.put (H:=H2) ⟨m2.sub,m2.dF,fun a i e => by
   by_cases z : i = j
   . subst z; rw [bC]; exact hd a e
   . rw [bf z]; exact m2.dO a i e⟩ (k9 hj) hio2 c2r⟩
 refine ⟨w,F,own,σ,_,g,q,fun r1 σ1 F1 own1 G1 t q1 x1 g1 rr1 => ?_⟩
 cases r1 with
 | v c1 =>
  obtain ⟨H1,c1r,m1⟩:=rr1
  refine ⟨⟨w.S0,aU w.Fr H1⟩,F1,own1,σ1,_,g1.hold m1,q1,fun r2 σ2 F2 own2 G2 u q2 x2 g2 rr2 => ?_⟩
  simp only [Vl.giv] at q2
  split at q2
  . rename_i c2 σ4 e4
    obtain ⟨F3,own3,H2,g3,x3,c2r,m2⟩:=g2.giv rr2 e4
    obtain ⟨g4,m1'⟩:=VRel.unhold (fx:=ak X.N.length io w) g3 (fun a e => (m1.dF a e).2) (g1.px.up (x2.sub.trans x3.sub))
    have hd : ∀ a,H2 a ≠ none -> H1 a = none:=fun a e => by
     cases z : H1 a with
     | none => rfl
     | some o =>
      have h1:=(m2.dF a e).2
      have h2 : aU w.Fr H1 a = some o:=jd (fun z => (m1.dF a z).2) z
      rw [show (ak X.N.length io ⟨w.S0,aU w.Fr H1⟩).Fr a = aU w.Fr H1 a from rfl,h2] at h1
      cases h1
    have m2' : Tmp (ak X.N.length io w) F3 own3 G2 H2:=⟨m2.sub,fun a e => ⟨(m2.dF a e).1,by
     cases z : w.Fr a with
     | none => exact z
     | some o =>
      have h1:=(m2.dF a e).2
      rw [show (ak X.N.length io ⟨w.S0,aU w.Fr H1⟩).Fr a = aU w.Fr H1 a from rfl,cV _ _ z] at h1
      cases h1⟩,m2.dO⟩
    obtain ⟨own',g5⟩:=fin g4 ((c1r.sub x2.sub).sub x3.sub) c2r m1' m2' hd
    exact kk.nx _ _ _ _ _ q2 ((x1.trans x2).trans x3) g5
  . exact q2.elim
 | sl i =>
  refine ⟨w,F1,own1,σ1,_,g1,q1,fun r2 σ2 F2 own2 G2 u q2 x2 g2 rr2 => ?_⟩
  split at q2
  . rename_i c1 σ3 e3
    split at q2
    . rename_i c2 σ4 e4
      have rr1 : du (ak X.N.length io w) F2 own2 S G2 t (.sl i):=rr1
      cases r2 with
      | v c =>
       obtain ⟨H2,c2r,m2⟩:=rr2
       cases e4
       obtain ⟨g2',m2h⟩ : VRel (ak X.N.length io ⟨w.S0,aU w.Fr H2⟩) F2 own2 S G2 σ2 /\ True:=⟨g2.hold m2,trivial⟩
       obtain ⟨F3,own3,H1,g3,x3,c1r,m1⟩:=g2'.giv (r:=.sl i) (t:=t) rr1 e3
       obtain ⟨g4,m2'⟩:=VRel.unhold (fx:=ak X.N.length io w) g3 (fun a e => (m2.dF a e).2) (g2.px.up x3.sub)
       have hd : ∀ a,H1 a ≠ none -> H2 a = none:=fun a e => by
        cases z : H2 a with
        | none => rfl
        | some o =>
         have h1:=(m1.dF a e).2
         have h2 : aU w.Fr H2 a = some o:=jd (fun z => (m2.dF a z).2) z
         rw [show (ak X.N.length io ⟨w.S0,aU w.Fr H2⟩).Fr a = aU w.Fr H2 a from rfl,h2] at h1
         cases h1
       have m1' : Tmp (ak X.N.length io w) F3 own3 G2 H1:=⟨m1.sub,fun a e => ⟨(m1.dF a e).1,by
        cases z : w.Fr a with
        | none => exact z
        | some o =>
         have h1:=(m1.dF a e).2
         rw [show (ak X.N.length io ⟨w.S0,aU w.Fr H2⟩).Fr a = aU w.Fr H2 a from rfl,cV _ _ z] at h1
         cases h1⟩,m1.dO⟩
       obtain ⟨own',g5⟩:=fin g4 c1r (c2r.sub x3.sub) m1' m2' fun a e => by
        cases z : H1 a with
        | none => rfl
        | some o => exact absurd (hd a (by rw [z]; simp)) e
       exact kk.nx _ _ _ _ _ q2 ((x1.trans x2).trans x3) g5
      | sl i2 =>
       obtain ⟨F3,own3,H1,g3,x3,c1r,m1⟩:=g2.giv rr1 e3
       obtain ⟨F4,own4,H2,g4,x4,c2r,m2⟩:=g3.giv (r:=.sl i2) (t:=u) rr2 e4
       have f1 : ∀ {σ σ' : SV} {i : Nat} {c : Cell},Vl.giv σ (.sl i) = some (c,σ') -> ∃ p,c = .fr p:=by
        intro σ σ' i c e
        simp only [Vl.giv] at e
        split at e <;> cases e <;> exact ⟨_,rfl⟩
       obtain ⟨p1,rfl⟩:=f1 e3
       obtain ⟨p2,rfl⟩:=f1 e4
       obtain ⟨own',g5⟩:=fin (H1:=aB) (H2:=aB) g4 (c1:=.fr p1) (c2:=.fr p2) (Rp.sub c1r x4.sub) c2r .nil .nil fun a e => rfl
       exact kk.nx _ _ _ _ _ q2 (((x1.trans x2).trans x3).trans x4) g5
    . exact q2.elim
  . exact q2.elim
end
abbrev VI:=SV -> (List PV -> SV -> Prop) -> Prop
def jT (N : Nat) (io : Io) (vi : VI) : LI:=fun S G Ψ => ∃ w F own σ Ψv,VRel (ak N io w) F own S G σ /\ vi σ Ψv /\
 ∀ ps σ' F' own' G' ts Keep,Ψv ps σ' -> Ext F F' -> VRel (ak N io w) F' own' S G' σ' -> RpL F' ts ps -> (∀ G'',Sub F' G'' -> Keep G'') -> Ψ ts Keep G'
def gW (en : En) (X : Cx) (io : Io) (tg iter : Expr) (vi : VI) : Prop:=Ei en X tg iter (jT X.N.length io vi)
section
variable {en : En} {X : Cx} {io : Io} {a b c e o tg iter elt kx vx : Expr} {es ifs : List Expr} {st : Stmt} {ss ss2 : List Stmt} {va vb vc te tk' tv : VE} {vt tt : VT} {vs ws : VS} {pos : Pos} {vi : VI} {f : T -> S2 -> Option S2} {fv : PV -> SV -> Option SV} {us : List Nat}
theorem my {l l' : LI} (h : Ei en X tg iter l) (w : ∀ S G Φ,l' S G Φ -> l S G Φ) : Ei en X tg iter l':=PI.weak h fun σ H R ⟨S,G,Ψ,s,g,q,k⟩ => ⟨S,G,Ψ,s,g,w S G Ψ q,k⟩
def mI : PV -> Option (List PV)
 | .tup ps => some ps
 | .lst ps => some ps
 | .str z => some (z.cps.toList.map fun c => PV.str ⟨#[c]⟩)
 | _ => none
def sE (va : VE) : VI:=fun σ Ψ => va σ fun r σ1 => match tk σ1 r with
 | some (p,σ2) => (match mI p with
  | some ps => Ψ ps σ2
  | none => False)
 | none => False
theorem xN {F : Gp} : ∀ cs : List Nat,RpL F (cs.map fun c => T.str ⟨#[c]⟩) (cs.map fun c => PV.str ⟨#[c]⟩)
 | [] => .nil
 | c :: cs => .cons (.str _) (xN cs)
theorem eC (h : Ev en X io e va) (hw : X.w = Dv.Wld.w:=by rfl) : gW en X io tg e (sE va):=my (gh h hw) fun S G Φ ⟨w,F,own,σ,Ψ,g,q,k⟩ => by
 refine ⟨w,F,own,σ,_,g,q,fun r σ1 F1 own1 G1 t q1 x1 g1 r1 => ?_⟩
 split at q1
 . rename_i p σ2 e1
   obtain ⟨F2,own2,g2,x2,rp⟩:=g1.tk r1 e1
   split at q1
   . rename_i ps e2
     cases rp with
     | tup r => cases e2; exact k _ _ _ _ _ _ _ q1 (x1.trans x2) g2 r fun _ _ => trivial
     | str z => cases e2; exact k _ _ _ _ _ _ _ q1 (x1.trans x2) g2 (xN _) fun _ _ => trivial
     | lst h r =>
      cases e2
      simp only [d8,g2.sub _ _ h]
      exact k _ _ _ _ _ _ _ q1 (x1.trans x2) g2 r fun G'' s => s _ _ h
     | _ => cases e2
   . exact q1.elim
 . exact q1.elim
def eZ (n : Nat) : List PV:=(List.range n).map fun (i : Nat) => PV.int (i : Int)
theorem wQ {F : Gp} {g : Nat -> Int} : ∀ ns : List Nat,RpL F (ns.map fun i => T.int (g i)) (ns.map fun i => PV.int (g i))
 | [] => .nil
 | n :: ns => .cons (.int _) (wQ ns)
def sR (va : VA) : VI:=fun σ Ψ => va σ fun rs σ1 => match jo σ1 rs with
 | some [.int j] => (-(2 ^ 62) <= j /\ j < 2 ^ 62) /\ Ψ (eZ j.toNat) σ1
 | _ => False
theorem gK.ints1 {F G : Gp} {ts : List T} {i : Int} (h : gK F G ts [.int i]) : ts = [.int i]:=by
 obtain ⟨t,rfl,r⟩:=h.one
 cases r
 rfl
theorem mH {va : VA} (he : ∀ l,Ea en X es l -> Ei en X tg iter (oW l)) (h : dM en X io es va) : gW en X io tg iter (sR va):=my (he _ h) fun S G Φ ⟨w,F,own,σ,Ψ,g,q,k⟩ => by
 refine ⟨w,F,own,σ,_,g,q,fun rs σ1 F1 own1 G1 ts q1 x1 g1 r1 => ?_⟩
 split at q1
 . rename_i j e
   have e2:=(uI g1 r1 e).ints1
   subst e2
   exact ⟨q1.1,k _ _ _ _ _ _ _ q1.2 x1 g1 (wQ _) fun _ _ => trivial⟩
 . exact q1.elim
def pP (xs : List PV) : List PV:=xs.zipIdx.map fun q => PV.tup [.int (q.2 : Int),q.1]
def iH (xs ys : List PV) : List PV:=(xs.zip ys).map fun q => PV.tup [q.1,q.2]
theorem yG {F : Gp} {ts : List T} {ps : List PV} (r : RpL F ts ps) : RpL F (fq ts) (pP ps):=by
 unfold fq pP
 have : ∀ (ts : List T) (ps : List PV) (n : Nat),RpL F ts ps -> RpL F ((ts.zipIdx n).map fun q => T.tup [.int (q.2 : Int),q.1]) ((ps.zipIdx n).map fun q => PV.tup [.int (q.2 : Int),q.1]):=by
  intro ts
  induction ts with
  | nil => intro ps n r; cases r; exact .nil
  | cons t ts ih =>
   intro ps n r
   cases r with
   | cons h1 h2 => exact .cons (.tup (.cons (.int _) (.cons h1 .nil))) (ih _ _ h2)
 exact this _ _ 0 r
theorem rH {F : Gp} : ∀ {ts us : List T} {ps qs : List PV},RpL F ts ps -> RpL F us qs -> RpL F (dZ ts us) (iH ps qs)
 | [],_,_,_,.nil,_ => by simp only [dZ,iH,List.zip_nil_left,List.map_nil]; exact .nil
 | _ :: _,[],_,_,.cons _ _,.nil => by simp only [dZ,iH,List.zip_nil_right,List.map_nil]; exact .nil
 | _ :: _,_ :: _,_,_,.cons h hs,.cons r rs => by
  have:=rH hs rs
  simp only [dZ,iH,List.zip_cons_cons,List.map_cons] at this ⊢
  exact .cons (.tup (.cons h (.cons r .nil))) this
def s6 (va : VA) : VI:=fun σ Ψ => va σ fun rs σ1 => match fC σ1 rs with
 | some ([.lst xs],σ2) => Ψ (pP xs) σ2
 | _ => False
theorem acS {va : VA} (he : ∀ l,Ea en X es l -> Ei en X tg iter (pz l)) (h : dM en X io es va) : gW en X io tg iter (s6 va):=my (he _ h) fun S G Φ ⟨w,F,own,σ,Ψ,g,q,k⟩ => by
 refine ⟨w,F,own,σ,_,g,q,fun rs σ1 F1 own1 G1 ts q1 x1 g1 r1 => ?_⟩
 split at q1
 . rename_i xs σ2 e
   obtain ⟨F2,own2,g2,x2,r⟩:=iZ g1 r1 e
   cases r with
   | cons h1 h2 =>
    cases h2
    cases h1 with
    | lst hg r =>
     simp only [g2.sub _ _ hg]
     exact k _ _ _ _ _ _ _ q1 (x1.trans x2) g2 (yG r) fun G'' s => s _ _ hg
 . exact q1.elim
def ur (va : VA) : VI:=fun σ Ψ => va σ fun rs σ1 => match fC σ1 rs with
 | some ([.lst xs,.lst ys],σ2) => Ψ (iH xs ys) σ2
 | some ([.tup xs,.tup ys],σ2) => Ψ (iH xs ys) σ2
 | _ => False
theorem adT {va : VA} (he : ∀ l,Ea en X es l -> Ei en X tg iter (oH l)) (h : dM en X io es va) : gW en X io tg iter (ur va):=my (he _ h) fun S G Φ ⟨w,F,own,σ,Ψ,g,q,k⟩ => by
 refine ⟨w,F,own,σ,_,g,q,fun rs σ1 F1 own1 G1 ts q1 x1 g1 r1 => ?_⟩
 split at q1
 . rename_i xs ys σ2 e
   obtain ⟨F2,own2,g2,x2,r⟩:=iZ g1 r1 e
   cases r with
   | cons h1 h2 =>
    cases h2 with
    | cons h2 h3 =>
     cases h3
     cases h1 with
     | lst hg r =>
      cases h2 with
      | lst hg2 r2 =>
       simp only [g2.sub _ _ hg,g2.sub _ _ hg2]
       exact k _ _ _ _ _ _ _ q1 (x1.trans x2) g2 (rH r r2) fun G'' s => ⟨s _ _ hg,s _ _ hg2⟩
 . rename_i xs ys σ2 e
   obtain ⟨F2,own2,g2,x2,r⟩:=iZ g1 r1 e
   cases r with
   | cons h1 h2 =>
    cases h2 with
    | cons h2 h3 =>
     cases h3
     cases h1 with
     | tup r =>
      cases h2 with
      | tup r2 => exact k _ _ _ _ _ _ _ q1 (x1.trans x2) g2 (rH r r2) fun G'' s => trivial
 . exact q1.elim
def gE (L : VEnds) (fv : PV -> SV -> Option SV) (b : VS) : List PV -> SV -> Prop
 | [],σ => L.nx σ
 | p :: r,σ => match fv p σ with
  | some σ' => b ⟨gE L fv b r,L.rt,L.nx,gE L fv b r⟩ σ'
  | none => False
def qC (vi : VI) (fv : PV -> SV -> Option SV) (b : VS) : VS:=fun L σ => vi σ fun ps σ1 => gE L fv b ps σ1
theorem oP {N : Nat} {w : Fq} {L : LEnds} (hg : GV N io f fv) {Keep : Gp -> Prop} {VL : VEnds} : ∀ (ps : List PV) (ts : List T) (F : Gp) (own : Nat -> Gp) (S : S2) (G : Gp) (σ : SV),VRel (ak N io w) F own S G σ -> RpL F ts ps -> (∀ G'',Sub F G'' -> Keep G'') -> VOk (ak N io w) F VL L -> gE VL fv vs ps σ -> fA L f (gQ N io vs) Keep ts S G
 | [],_,F,own,S,G,σ,g,.nil,hk,ok,q => ⟨hk _ g.sub,ok.nx _ _ _ _ _ q .refl g⟩
 | p :: ps,_,F,own,S,G,σ,g,.cons r rs,hk,ok,q => by
  refine ⟨hk _ g.sub,?_⟩
  simp only [gE] at q
  split at q
  . rename_i σ' e
    obtain ⟨S',own',f1,g1⟩:=hg _ _ _ _ _ _ _ _ _ g r e
    rw [f1]
    have again : ∀ S' G' σ' F' own',gE VL fv vs ps σ' -> Ext F F' -> VRel (ak N io w) F' own' S' G' σ' -> ∃ G0,Sub G0 G' /\ fA L f (gQ N io vs) Keep _ S' G0 :=
     fun S' G' σ' F' own' q' x' g' => ⟨G',Sub.refl _,oP hg ps _ F' own' S' G' σ' g' (rs.sub x'.sub) (fun G'' s => hk _ (x'.sub.trans s)) (ok.step x') q'⟩
    exact ⟨w,F,own',σ',_,g1,q,⟨again,ok.rt,ok.nx,again⟩⟩
  . exact q.elim
theorem fM (hp : PassesOwn (model X.prog X.w) X.A X.env X.xe) (hc : X.calm = true) (hi : gW en X io tg iter vi) (hg : Egv X io tg f fv us) (hb : dG en X io ss vs)
 (hs : ∀ x,foldedSetIterable iter X.env x = pure x:=by intro _; rfl) : cS en X io (.For tg iter ss [] pos) (qC vi fv vs):=eU (pW hp hc hi hg.eg hb hs) fun L S G ⟨w,F,own,σ,VL,g,q,k⟩ =>
 ⟨w,F,own,σ,_,g,q,fun ps σ' F' own' G' ts Keep q1 x1 g1 r1 hk => oP hg.gv ps ts F' own' S G' σ' g1 r1 hk (k.step x1) q1⟩
def ab9 (c : VT) (b : VS) : VS:=fun L σ => ∃ W : Nat -> SV -> Prop,(∃ m,W m σ) /\ ∀ m σ,W m σ -> c σ fun k σ1 => if k = true then b ⟨fun σ' => ∃ m',m' < m /\ W m' σ',L.rt,L.nx,fun σ' => ∃ m',m' < m /\ W m' σ'⟩ σ1 else L.nx σ1
theorem afc (hp : PassesOwn (model X.prog X.w) X.A X.env X.xe) (hc : dS en X io c vt) (hb : dG en X io ss vs) : cS en X io (.While c ss [] pos) (ab9 vt vs):=eU (s_while hp hc hb) fun L S G ⟨w,F,own,σ,VL,g,⟨W,⟨m0,w0⟩,hW⟩,ok⟩ => by
 refine ⟨fun m S' G' => ∃ F' own' σ',VRel (ak X.N.length io w) F' own' S' G' σ' /\ Ext F F' /\ W m σ',⟨m0,F,own,σ,g,.refl,w0⟩,?_⟩
 rintro m S1 G1 ⟨F1,own1,σ1,g1,x1,w1⟩
 refine ⟨w,F1,own1,σ1,_,g1,hW m σ1 w1,fun d σ2 F2 own2 G2 q2 x2 g2 => ⟨G2,Sub.refl _,?_⟩⟩
 cases d with
 | false => exact ok.nx _ _ _ _ _ q2 (x1.trans x2) g2
 | true =>
  have again : ∀ S' G' σ' F' own',(∃ m',m' < m /\ W m' σ') -> Ext F2 F' -> VRel (ak X.N.length io w) F' own' S' G' σ' -> ∃ m' G0,m' < m /\ Sub G0 G' /\ ∃ F' own' σ',VRel (ak X.N.length io w) F' own' S' G0 σ' /\ Ext F F' /\ W m' σ' :=
   fun S' G' σ' F' own' ⟨m',h1,h2⟩ x' g' => ⟨m',G',h1,Sub.refl _,F',own',σ',g',(x1.trans x2).trans x',h2⟩
  exact ⟨w,F2,own2,σ2,_,g2,q2,⟨again,(ok.step (x1.trans x2)).rt,(ok.step (x1.trans x2)).nx,again⟩⟩
def ay (σ : SV) : List Nat -> SV
 | [] => σ
 | v :: vs => ac (ay σ vs) v none
theorem VRel.dels {fx : Fx} {F : Gp} {own : Nat -> Gp} {S : S2} {G : Gp} {σ : SV} (g : VRel fx F own S G σ) : ∀ us : List Nat,(∀ j ∈ us,j ∉ fx.io) -> VRel fx F own (bY S us) G (ay σ us)
 | [],_ => g
 | v :: vs,h => (VRel.dels g vs fun j hj => h j (List.mem_cons_of_mem _ hj)).del (h v List.mem_cons_self)
theorem rE {S : S2} : ∀ {us : List Nat} {i : Nat},i ∉ us -> (bY S us)[i]? = S[i]?
 | [],_,_ => rfl
 | v :: vs,i,h => by
  show ((bY S vs).set v none)[i]? = _
  rw [List.getElem?_set_ne (fun z => h (by rw [z]; exact List.mem_cons_self))]
  exact rE fun z => h (List.mem_cons_of_mem _ z)
theorem oL {σ : SV} : ∀ {us : List Nat} {i : Nat},i ∈ us -> ay σ us i = none
 | v :: vs,i,h => by
  show (if i = v then none else ay σ vs i) = none
  by_cases e : i = v
  . rw [if_pos e]
  . rw [if_neg e]; exact oL ((List.mem_cons.mp h).resolve_left e)
theorem lU {σ : SV} : ∀ {us : List Nat} {i : Nat},i ∉ us -> ay σ us i = σ i
 | [],_,_ => rfl
 | v :: vs,i,h => by
  show (if i = v then none else ay σ vs i) = σ i
  rw [if_neg (fun z => h (by rw [z]; exact List.mem_cons_self))]
  exact lU fun z => h (List.mem_cons_of_mem _ z)
def fY (fv : PV -> SV -> Option SV) (us : List Nat) (tt : VT) (te : VE) (Fin : List PV -> SV -> Prop) : List PV -> List PV -> SV -> Prop
 | [],acc,σ => Fin acc σ
 | p :: r,acc,σ => match fv p (ay σ us) with
  | some σ' => tt σ' fun b σ1 => if b = true then te σ1 fun y σ2 => (match tk σ2 y with
      | some (q,σ3) => acc.length < sizeLine /\ fY fv us tt te Fin r (acc ++ [q]) (ay σ3 us)
      | none => False) else fY fv us tt te Fin r acc (ay σ1 us)
  | none => False
def lu (vi : VI) (fv : PV -> SV -> Option SV) (us : List Nat) (tt : VT) (te : VE) : VE:=fun σ Ψ => vi σ fun ps σ1 => fY fv us tt te (fun acc σ2 => Ψ (.v (.ow (.lst acc))) σ2) ps [] (ay σ1 us)
def eW (f : T -> S2 -> Option S2) (us : List Nat) : Prop:=∀ t S S',f t S = some S' -> S'.length = S.length /\ ∀ i,i ∉ us -> S'[i]? = S[i]?
theorem VRel.outer {fx : Fx} {F : Gp} {own : Nat -> Gp} {S S2' : S2} {G : Gp} {σ : SV} (g : VRel fx F own S2' G σ) (us : List Nat) (hl : S.length = S2'.length) (h : ∀ i,i ∉ us -> S2'[i]? = S[i]?) (hio : ∀ j ∈ us,j ∉ fx.io) : VRel fx F own S G (ay σ us) :=
 ⟨hl.trans g.len,fun i hi => (h i fun z => hio i z hi).symm.trans (g.pin i hi),g.sub,g.frs,g.frF,g.owG,g.owF,g.dis,fun i c e => by
  by_cases z : i ∈ us
  . rw [oL z] at e; cases e
  . rw [lU z] at e
    rw [<- h i z]
    exact g.cell i c e,g.px⟩
theorem sN {S : S2} : ∀ us : List Nat,(bY S us).length = S.length
 | [] => rfl
 | v :: vs => by show ((bY S vs).set v none).length = _; rw [List.length_set]; exact sN vs
theorem eG {j : Nat} : eW (gN j) [j]:=fun t S S' e => by
 cases e
 exact ⟨List.length_set,fun i hi => List.getElem?_set_ne (fun z => hi (by rw [z]; exact List.mem_cons_self))⟩
def m8 (f : List T -> S2 -> Option S2) (us : List Nat) : Prop:=∀ t S S',f t S = some S' -> S'.length = S.length /\ ∀ i,i ∉ us -> S'[i]? = S[i]?
theorem z6 : m8 ml []:=fun t S S' e => by
 cases t with
 | nil => cases e; exact ⟨rfl,fun _ _ => rfl⟩
 | cons _ _ => cases e
theorem y6 {f : T -> S2 -> Option S2} {r : List T -> S2 -> Option S2} {us ws : List Nat} (h : eW f us) (hr : m8 r ws) : m8 (iU f r) (us ++ ws):=fun t S S' e => by
 cases t with
 | nil => cases e
 | cons t ts =>
  simp only [iU] at e
  split at e
  . rename_i S1 e1
    obtain ⟨h1,h2⟩:=h _ _ _ e1
    obtain ⟨h3,h4⟩:=hr _ _ _ e
    exact ⟨h3.trans h1,fun i hi => (h4 i fun z => hi (List.mem_append_right _ z)).trans (h2 i fun z => hi (List.mem_append_left _ z))⟩
  . cases e
theorem ace {f : List T -> S2 -> Option S2} {us : List Nat} {n : Nat} (h : m8 f us) : eW (gT n f) us:=fun t S S' e => by
 cases t with
 | tup ts =>
  simp only [gT] at e
  split at e
  . exact h _ _ _ e
  . cases e
 | _ => cases e
theorem lZ {N : Nat} {w : Fq} (hg : GV N io f fv) (ho : eW f us) (hio : ∀ j ∈ us,j ∉ io) {Keep : Gp -> Prop} {Fin : List PV -> SV -> Prop} {FinT : List T -> Gp -> Prop} {F0 : Gp} {S : S2}
 (hF : ∀ acc accT F own G σ,Fin acc σ -> Ext F0 F -> VRel (ak N io w) F own S G σ -> RpL F accT acc -> FinT accT G) :
 ∀ (ps : List PV) (ts : List T) (acc : List PV) (accT : List T) (F : Gp) (own : Nat -> Gp) (G : Gp) (σ : SV),VRel (ak N io w) F own S G (ay σ us) -> Ext F0 F -> RpL F ts ps -> RpL F accT acc -> (∀ G'',Sub F G'' -> Keep G'') -> fY fv us tt te Fin ps acc (ay σ us) ->
     fj Keep f us (d3 N io tt) (bJ N io te) FinT S ts accT G
 | [],_,acc,accT,F,own,G,σ,g,x,.nil,ra,hk,q => ⟨hk _ g.sub,hF _ _ _ _ _ _ q x g ra⟩
 | p :: ps,_,acc,accT,F,own,G,σ,g,x,.cons (t:=t) (ts:=ts) r rs,ra,hk,q => by
  refine ⟨hk _ g.sub,?_⟩
  simp only [fY] at q
  split at q
  . rename_i σ' e
    have g0:=g.dels us hio
    obtain ⟨S',own',f1,g1⟩:=hg _ _ _ _ _ _ _ _ _ g0 r e
    rw [f1]
    obtain ⟨hl,hn⟩:=ho _ _ _ f1
    have hl' : S.length = S'.length:=by rw [hl,sN]
    have hn' : ∀ i,i ∉ us -> S'[i]? = S[i]?:=fun i hi => (hn i hi).trans (rE hi)
    refine ⟨w,F,own',σ',_,g1,q,fun b σ1 F1 own1 G1 q1 x1 g2 => ?_⟩
    cases b with
    | false => exact ⟨G1,Sub.refl _,lZ hg ho hio hF ps ts acc accT F1 own1 G1 σ1 (g2.outer us hl' hn' hio) (x.trans x1) (rs.sub x1.sub) (ra.sub x1.sub) (fun G'' s => hk _ (x1.sub.trans s)) q1⟩
    | true =>
     refine ⟨w,F1,own1,σ1,_,g2,q1,fun y σ2 F2 own2 G2 ty q2 x2 g3 r3 => ?_⟩
     split at q2
     . rename_i z σ3 e3
       obtain ⟨F3,own3,g4,x3,rp⟩:=g3.tk r3 e3
       have xx:=(x1.trans x2).trans x3
       exact ⟨by rw [(ra).length]; exact q2.1,G2,Sub.refl _,lZ hg ho hio hF ps ts (acc ++ [z]) (accT ++ [ty]) F3 own3 G2 σ3 (g4.outer us hl' hn' hio) (x.trans xx) (rs.sub xx.sub) ((ra.sub xx.sub).app (.cons rp .nil)) (fun G'' s => hk _ (xx.sub.trans s)) q2.2⟩
     . exact q2.elim
  . exact q.elim
theorem pZ {l l' : LE} (h : E en X e l) (w : Shared -> ∀ S G Φ,l' S G Φ -> l S G Φ) : E en X e l':=⟨fun pins s σ H Q I q => h.run pins s σ H Q I (let ⟨S,G,Φ,sr,g,q,k⟩:=q; ⟨S,G,Φ,sr,g,w s S G Φ q,k⟩)⟩
theorem zx {N : Nat} (hg : GV N io f fv) (ho : eW f us) (hio : ∀ j ∈ us,j ∉ io) : ∀ S G Φ,bJ N io (lu vi fv us tt te) S G Φ -> fH (jT N io vi) f us (d3 N io tt) (bJ N io te) S G Φ:=fun S G Φ ⟨w,F,own,σ,Ψ,g,q,k⟩ => by
 refine ⟨w,F,own,σ,_,g,q,fun ps σ' F' own' G' ts Keep q1 x1 g1 r1 hk => ?_⟩
 have g1' : VRel (ak N io w) F' own' S G' (ay σ' us):=g1.outer us rfl (fun _ _ => rfl) hio
 refine lZ hg ho hio (F0:=F') (fun acc accT F2 own2 G2 σ2 q2 x2 g2 ra p hp => ?_) ps ts [] [] F' own' G' σ' g1' .refl r1 .nil hk q1
 obtain ⟨g3,m3⟩:=g2.fresh (Fresh.new (o:=.lst accT) hp)
 exact k _ _ _ _ _ _ q2 (x1.trans x2) g3 ⟨_,⟨p,_,rfl,rfl,ra⟩,m3⟩
def ki (en : En) (X : Cx) (io : Io) (ifs : List Expr) (t : VT) : Prop:=gX en X ifs (d3 X.N.length io t)
def uJ : VT:=fun σ Ψ => Ψ true σ
theorem ack {l l' : LT} (h : gX en X ifs l) (w : ∀ S G Φ,l' S G Φ -> l S G Φ) : gX en X ifs l':=PTs.weak h fun σ H Q ⟨S,G,Φ,s,g,q,k⟩ => ⟨S,G,Φ,s,g,w S G Φ q,k⟩
theorem jn : ki en X io [] uJ:=ack jr fun S G Φ ⟨w,F,own,σ,Ψ,g,q,k⟩ => k _ _ _ _ _ q .refl g
theorem lw (h : dS en X io c vt) : ki en X io [c] vt:=wW h
variable {scope : Scope}
theorem jx (own : List (Str × Nat)) (hN : X.N.Nodup) (hi : gW en X io tg iter vi) (hg : cj X scope fun Y => Egv Y io tg f fv (slotsOf own)) (ht : cj X scope fun Y => ki en Y io ifs tt) (he : cj X scope fun Y => Ev en Y io elt te) (ho : eW f (slotsOf own))
 (hio : ∀ j ∈ slotsOf own,j ∉ io:=by first | decide | exact pF (by decide)) (hc : X.calm = true:=by rfl) (ok : blkC X.N X.env.scope scope own = true:=by rfl) (hs : ∀ x,foldedSetIterable iter X.env x = pure x:=by intro _; rfl) :
    Ev en X io (.ListComp elt [⟨tg,iter,ifs,0⟩] scope pos) (lu vi fv (slotsOf own) tt te):=by
 have h:=jq (w:=jT X.N.length io vi) (tt:=d3 X.N.length io tt) (te:=bJ X.N.length io te) (pos:=pos) own hN hi (fun s H C cl fp => (hg s H C cl fp).eg) ht he hc ok hs
 exact pZ h fun s => zx (hg s (fun _ => none) 0 [] []).gv ho hio
end
end Vl
noncomputable section
namespace Vl
open PySem PySem.Spec PyProof.Rows L2 Dv
variable [Dv.Wld]
abbrev XV:=Addr -> List (Str × PV) -> SV -> Prop
abbrev SpV:=SV -> (Cell -> SV -> Prop) -> XV -> Prop
def e9 : XV:=fun _ _ _ => False
structure CalR (fx : Fx) (F : Gp) (S : S2) (Ψ : Cell -> SV -> Prop) (ΨE : XV) (Φ : QT) (ΦE : cW) : Prop where
 ok : ∀ c σ' F' own' H t G',Ψ c σ' -> Ext F F' -> VRel fx F' own' S G' σ' -> bu F' H t c -> Tmp fx F' own' G' H -> Φ t G'
 er : ∀ C fs fT σ' F' own' G',ΨE C fs σ' -> Ext F F' -> VRel fx F' own' S G' σ' -> RpF F' fT fs -> ΦE C fT G'
def bV (n : Nat) (io : List Nat) (sp : SpV) : aI:=fun ts G Φ ΦE => ts.length = n /\ ∃ Fr F own σ Ψ ΨE,VRel ⟨n,io,ts.map some,Fr⟩ F own (ts.map some) G σ /\ sp σ Ψ ΨE /\ CalR ⟨n,io,ts.map some,Fr⟩ F (ts.map some) Ψ ΨE Φ ΦE
abbrev Ag:=PV ⊕ Nat
def eN (ioc : List Nat) : Nat -> List RV -> SV -> Option (List Ag × SV)
 | _,[],σ => some ([],σ)
 | i, r :: rs, σ => if i ∈ ioc then (match r with
     | .sl j => (match eN ioc (i + 1) rs σ with
      | some (as,σ') => some (.inr j :: as,σ')
      | none => none)
     | _ => none) else (match tk σ r with
     | some (p,σ1) => (match eN ioc (i + 1) rs σ1 with
      | some (as,σ') => some (.inl p :: as,σ')
      | none => none)
     | none => none)
def cellOf (σ : SV) : Ag -> Option Cell
 | .inl p => some (.fr p)
 | .inr j => σ j
def cz (σ : SV) (as : List Ag) : SV:=fun i => match as[i]? with
 | some a => cellOf σ a
 | none => none
def aO (as : List Ag) : Nat -> Option Nat:=fun i => match as[i]? with
 | some (.inr j) => some j
 | _ => none
def a7 : List Ag -> List Nat
 | [] => []
 | .inl _ :: as => a7 as
 | .inr j :: as => j :: a7 as
def backV (σr : SV) : Nat -> List Ag -> SV -> SV
 | _,[],σ => σ
 | i,.inl _ :: as,σ => backV σr (i + 1) as σ
 | i,.inr j :: as,σ => ac (backV σr (i + 1) as σ) j (σr i)
def a6 (F : Gp) (S : S2) : List T -> List Ag -> Prop
 | [],[] => True
 | t :: ts,.inl p :: as => Rp F t p /\ a6 F S ts as
 | t :: ts,.inr j :: as => S[j]? = some (some t) /\ a6 F S ts as
 | _,_ => False
theorem a6.sub {F F' : Gp} {S : S2} (s : Sub F F') : ∀ {ts : List T} {as : List Ag},a6 F S ts as -> a6 F' S ts as
 | [],[],_ => trivial
 | _ :: _,.inl _ :: _,h => ⟨h.1.sub s,a6.sub s h.2⟩
 | _ :: _,.inr _ :: _,h => ⟨h.1,a6.sub s h.2⟩
 | [],_ :: _,h => h.elim
 | _ :: _,[],h => h.elim
theorem a6.app {F : Gp} {S : S2} {us : List T} {bs : List Ag} (h2 : a6 F S us bs) : ∀ {ts : List T} {as : List Ag},a6 F S ts as -> a6 F S (ts ++ us) (as ++ bs)
 | [],[],_ => h2
 | _ :: _,.inl _ :: _,h => ⟨h.1,a6.app h2 h.2⟩
 | _ :: _,.inr _ :: _,h => ⟨h.1,a6.app h2 h.2⟩
 | [],_ :: _,h => h.elim
 | _ :: _,[],h => h.elim
theorem a6.inls {F : Gp} {S : S2} : ∀ {ts : List T} {ps : List PV},RpL F ts ps -> a6 F S ts (ps.map Sum.inl)
 | _,_,.nil => trivial
 | _,_,.cons h r => ⟨h,a6.inls r⟩
theorem a6.len {F : Gp} {S : S2} : ∀ {ts : List T} {as : List Ag},a6 F S ts as -> ts.length = as.length
 | [],[],_ => rfl
 | _ :: _,.inl _ :: _,h => congrArg Nat.succ (a6.len h.2)
 | _ :: _,.inr _ :: _,h => congrArg Nat.succ (a6.len h.2)
 | [],_ :: _,h => h.elim
 | _ :: _,[],h => h.elim
theorem a6.get {F : Gp} {S : S2} : ∀ {ts : List T} {as : List Ag} {i : Nat} {a : Ag},a6 F S ts as -> as[i]? = some a -> ∃ t,ts[i]? = some t /\ (match a with
    | .inl p => Rp F t p
    | .inr j => S[j]? = some (some t))
 | [],[],i,a,_,e => by simp at e
 | t :: _,.inl p :: _,0,a,h,e => by simp at e; subst e; exact ⟨t,rfl,h.1⟩
 | t :: _,.inr p :: _,0,a,h,e => by simp at e; subst e; exact ⟨t,rfl,h.1⟩
 | _ :: _,.inl _ :: _,i + 1,a,h,e => by simpa using a6.get (i:=i) h.2 (by simpa using e)
 | _ :: _,.inr _ :: _,i + 1,a,h,e => by simpa using a6.get (i:=i) h.2 (by simpa using e)
 | [],_ :: _,_,_,h,_ => h.elim
 | _ :: _,[],_,_,h,_ => h.elim
theorem lH : ∀ {as : List Ag} {i k : Nat},aO as i = some k -> k ∈ a7 as
 | [],i,k,h => by simp [aO] at h
 | .inl p :: as,0,k,h => by simp [aO] at h
 | .inl p :: as,i + 1,k,h => by simpa [a7] using lH (as:=as) (i:=i) (by simpa [aO] using h)
 | .inr j :: as,0,k,h => by simp [aO] at h; simp [a7,h]
 | .inr j :: as,i + 1,k,h => by simp [a7]; exact .inr (lH (as:=as) (i:=i) (by simpa [aO] using h))
theorem pO : ∀ {as : List Ag},(a7 as).Nodup -> ∀ i i' k,aO as i = some k -> aO as i' = some k -> i = i'
 | [],_,i,i',k,h,_ => by simp [aO] at h
 | .inl p :: as,hn,i,i',k,h,h' => by
  cases i with
  | zero => simp [aO] at h
  | succ i =>
   cases i' with
   | zero => simp [aO] at h'
   | succ i' => rw [pO (as:=as) (by simpa [a7] using hn) i i' k (by simpa [aO] using h) (by simpa [aO] using h')]
 | .inr j :: as,hn,i,i',k,h,h' => by
  have hn2:=List.nodup_cons.mp (by simpa [a7] using hn)
  cases i with
  | zero =>
   cases i' with
   | zero => rfl
   | succ i' =>
    have e : j = k:=by simpa [aO] using h
    subst e
    exact absurd (lH (as:=as) (i:=i') (by simpa [aO] using h')) hn2.1
  | succ i =>
   cases i' with
   | zero =>
    have e : j = k:=by simpa [aO] using h'
    subst e
    exact absurd (lH (as:=as) (i:=i) (by simpa [aO] using h)) hn2.1
   | succ i' => rw [pO (as:=as) hn2.2 i i' k (by simpa [aO] using h) (by simpa [aO] using h')]
theorem nu {σr : SV} : ∀ {as : List Ag} {d : Nat} {σ : SV} {k : Nat} {c : Cell},backV σr d as σ k = some c -> (∃ i,aO as i = some k /\ σr (d + i) = some c) \/ ((∀ i,aO as i ≠ some k) /\ σ k = some c)
 | [],d,σ,k,c,h => .inr ⟨fun i e => by simp [aO] at e,h⟩
 | .inl p :: as,d,σ,k,c,h => by
  rcases nu (as:=as) (d:=d + 1) h with ⟨i,h1,h2⟩ | ⟨h1,h2⟩
  . exact .inl ⟨i + 1,by simpa [aO] using h1,by rw [<- h2]; congr 1; omega⟩
  . refine .inr ⟨fun i e => ?_,h2⟩
    cases i with
    | zero => simp [aO] at e
    | succ i => exact h1 i (by simpa [aO] using e)
 | .inr j :: as,d,σ,k,c,h => by
  unfold backV at h
  rw [cf] at h
  by_cases e : k = j
  . rw [if_pos e] at h
    subst e
    exact .inl ⟨0,by simp [aO],by simpa using h⟩
  . rw [if_neg e] at h
    rcases nu (as:=as) (d:=d + 1) h with ⟨i,h1,h2⟩ | ⟨h1,h2⟩
    . exact .inl ⟨i + 1,by simpa [aO] using h1,by rw [<- h2]; congr 1; omega⟩
    . refine .inr ⟨fun i e' => ?_,h2⟩
      cases i with
      | zero => simp [aO] at e'; exact e e'.symm
      | succ i => exact h1 i (by simpa [aO] using e')
theorem jp {N : Nat} {io : Io} {ioc : List Nat} {w : Fq} {G : Gp} {S : S2} : ∀ {rs : List RV} {ts : List T} {F : Gp} {own : Nat -> Gp} {σ σ' : SV} {i : Nat} {as : List Ag},VRel (ak N io w) F own S G σ -> cu F S ts rs -> eN ioc i rs σ = some (as,σ') -> ∃ F' own',VRel (ak N io w) F' own' S G σ' /\ Ext F F' /\ a6 F' S ts as
 | [],[],F,own,σ,σ',i,as,g,_,e => by cases e; exact ⟨F,own,g,.refl,trivial⟩
 | r :: rs,t :: ts,F,own,σ,σ',i,as,g,h,e => by
  unfold eN at e
  split at e
  . split at e
    . rename_i j
      split at e
      . rename_i as' σ1 e1
        cases e
        obtain ⟨F',own',g',x',k'⟩:=jp g h.2 e1
        exact ⟨F',own',g',x',h.1,k'⟩
      . cases e
    . cases e
  . split at e
    . rename_i p σ1 e1
      split at e
      . rename_i as' σ2 e2
        cases e
        obtain ⟨F1,own1,g1,x1,rp⟩:=g.tk h.1.rv e1
        obtain ⟨F',own',g',x',k'⟩:=jp g1 (cu.sub x1.sub h.2) e2
        exact ⟨F',own',g',x1.trans x',rp.sub x'.sub,k'⟩
      . cases e
    . cases e
 | [],_ :: _,_,_,_,_,_,_,_,h,_ => h.elim
 | _ :: _,[],_,_,_,_,_,_,_,h,_ => h.elim
open Classical in
noncomputable def frm (Fr G : Gp) (own : Nat -> Gp) (js : Nat -> Option Nat) : Gp:=fun a => if ∃ k,own k a ≠ none /\ ∀ i,js i ≠ some k then G a else Fr a
open Classical in
noncomputable def ly (own own' : Nat -> Gp) (js : Nat -> Option Nat) : Nat -> Gp:=fun k => if h : ∃ i,js i = some k then own' h.choose else own k
theorem ja {own own' : Nat -> Gp} {js : Nat -> Option Nat} {i k : Nat} (inj : ∀ i i' k,js i = some k -> js i' = some k -> i = i') (h : js i = some k) : ly own own' js k = own' i:=by
 have hx : ∃ i,js i = some k:=⟨i,h⟩
 unfold ly
 rw [dif_pos hx]
 rw [inj _ _ _ hx.choose_spec h]
theorem i9 {own own' : Nat -> Gp} {js : Nat -> Option Nat} {k : Nat} (h : ∀ i,js i ≠ some k) : ly own own' js k = own k:=by
 unfold ly
 rw [dif_neg (fun ⟨i,e⟩ => h i e)]
section
variable {N n : Nat} {io : Io} {io' : List Nat} {w : Fq} {F G : Gp} {own : Nat -> Gp} {S : S2} {σ : SV} {js : Nat -> Option Nat} {ts : List T} {σa : SV}
def jc (own : Nat -> Gp) (js : Nat -> Option Nat) : Nat -> Gp:=fun i => match js i with
 | some k => own k
 | none => aB
theorem xK {Fr : Gp} {a : Addr} (h : frm Fr G own js a ≠ none) : (∃ k,own k a ≠ none /\ ∀ i,js i ≠ some k) \/ Fr a ≠ none:=by
 unfold frm at h
 by_cases z : ∃ k,own k a ≠ none /\ ∀ i,js i ≠ some k
 . exact .inl z
 . rw [if_neg z] at h; exact .inr h
theorem aav {Fr : Gp} {a : Addr} {o : O} (h : frm Fr G own js a = some o) : G a = some o \/ Fr a = some o:=by
 unfold frm at h
 by_cases z : ∃ k,own k a ≠ none /\ ∀ i,js i ≠ some k
 . rw [if_pos z] at h; exact .inl h
 . rw [if_neg z] at h; exact .inr h
theorem VRel.call (g : VRel (ak N io w) F own S G σ) (hl : ts.length = n) (inj : ∀ i i' k,js i = some k -> js i' = some k -> i = i')
 (hc : ∀ i c,σa i = some c -> ∃ t,ts[i]? = some t /\ ((∃ k,js i = some k /\ σ k = some c /\ S[k]? = some (some t)) \/ (js i = none /\ ∃ p,c = .fr p /\ Rp F t p))) :
    VRel ⟨n,io',ts.map some,frm w.Fr G own js⟩ F (jc own js) (ts.map some) G σa:=by
 have hoA : ∀ i a,jc own js i a ≠ none -> ∃ k,js i = some k /\ own k a ≠ none:=by
  intro i a h
  cases e : js i with
  | none => simp [jc,e,aB] at h
  | some k => exact ⟨k,rfl,by simpa [jc,e] using h⟩
 refine ⟨by rw [List.length_map]; exact hl,fun i _ => rfl,g.sub,fun a o e => ?_,fun a e => ?_,fun i a o e => ?_,fun i a e => ⟨?_,?_⟩,fun i j a hij e => ?_,fun i c e => ?_,Io.ok0⟩
 . rcases aav (show frm w.Fr G own js a = some o from e) with e | e
   . exact e
   . exact g.frs _ _ e
 . show frm w.Fr G own js a = none
   cases z : frm w.Fr G own js a with
   | none => rfl
   | some o =>
    rcases xK (by rw [z]; simp) with ⟨k,hk,_⟩ | h
    . exact absurd (g.owF k a hk).1 e
    . exact absurd (g.frF a e) h
 . obtain ⟨k,e1,e2⟩:=hoA i a (by rw [e]; simp)
   unfold jc at e
   rw [e1] at e
   exact g.owG k _ _ e
 . obtain ⟨k,e1,e2⟩:=hoA i a e
   exact (g.owF k a e2).1
 . obtain ⟨k,e1,e2⟩:=hoA i a e
   show frm w.Fr G own js a = none
   cases z : frm w.Fr G own js a with
   | none => rfl
   | some o =>
    rcases xK (by rw [z]; simp) with ⟨k',hk,hn⟩ | h
    . by_cases y : k = k'
      . subst y; exact absurd e1 (hn i)
      . exact absurd (g.dis k k' a y e2) hk
    . exact absurd (g.owF k a e2).2 h
 . obtain ⟨k,e1,e2⟩:=hoA i a e
   cases z : jc own js j a with
   | none => rfl
   | some o =>
    obtain ⟨k',e3,e4⟩:=hoA j a (by rw [z]; simp)
    by_cases y : k = k'
    . subst y; exact absurd (inj _ _ _ e1 e3) hij
    . exact absurd (g.dis k k' a y e2) e4
 . obtain ⟨t,e1,h⟩:=hc i c e
   refine ⟨t,by rw [List.getElem?_map,e1]; rfl,?_⟩
   rcases h with ⟨k,e2,e3,e4⟩ | ⟨e2,p,rfl,r⟩
   . obtain ⟨u,e5,e6⟩:=g.cell k c e3
     rw [e4] at e5
     cases e5
     unfold jc
     rw [e2]
     exact e6
   . exact r
theorem VRel.back (g : VRel (ak N io w) F own S G σ) (inj : ∀ i i' k,js i = some k -> js i' = some k -> i = i') (hj : ∀ i k t,js i = some k -> ts[i]? = some t -> S[k]? = some (some t))
 {F' G' H : Gp} {own' : Nat -> Gp} {σr : SV} (x : Ext F F') (g' : VRel ⟨n,io',ts.map some,frm w.Fr G own js⟩ F' own' (ts.map some) G' σr) (m : Tmp ⟨n,io',ts.map some,frm w.Fr G own js⟩ F' own' G' H)
 {σb : SV} (hb : ∀ k c,σb k = some c -> (∃ i,js i = some k /\ σr i = some c) \/ ((∀ i,js i ≠ some k) /\ σ k = some c)) :
 ∃ own3,VRel (ak N io w) F' own3 S G' σb /\ Tmp (ak N io w) F' own3 G' H:=by
 have frE : ∀ a,w.Fr a ≠ none -> frm w.Fr G own js a = w.Fr a:=by
  intro a h
  unfold frm
  rw [if_neg]
  rintro ⟨k,hk,_⟩
  exact h (g.owF k a hk).2
 have frO : ∀ a k,own k a ≠ none -> (∀ i,js i ≠ some k) -> frm w.Fr G own js a = G a:=by
  intro a k hk hn
  unfold frm
  rw [if_pos ⟨k,hk,hn⟩]
 have frO2 : ∀ a k,own k a ≠ none -> (∀ i,js i ≠ some k) -> frm w.Fr G own js a ≠ none:=by
  intro a k hk hn
  rw [frO a k hk hn]
  obtain ⟨o,e⟩:=Option.ne_none_iff_exists'.mp hk
  rw [g.owG k _ _ e]
  simp
 have frN : ∀ a,frm w.Fr G own js a = none -> w.Fr a = none:=by
  intro a h
  cases z : w.Fr a with
  | none => rfl
  | some o => rw [frE a (by rw [z]; simp),z] at h; cases h
 have cas : ∀ k,(∃ i,js i = some k) \/ ∀ i,js i ≠ some k:=fun k => by
  by_cases h : ∃ i,js i = some k
  . exact .inl h
  . exact .inr fun i e => h ⟨i,e⟩
 refine ⟨ly own own' js,⟨g.len,g.pin,g'.sub,fun a o e => ?_,fun a e => ?_,fun k => ?_,fun k a e => ?_,fun k l a hkl e => ?_,fun k c e => ?_,g.px.up x.sub⟩,⟨m.sub,fun a e => ⟨(m.dF a e).1,frN a (m.dF a e).2⟩,fun a k e => ?_⟩⟩
 . have e : w.Fr a = some o:=e
   have : frm w.Fr G own js a = some o:=by rw [frE a (by rw [e]; simp)]; exact e
   exact g'.frs _ _ this
 . exact frN a (g'.frF a e)
 . rcases cas k with ⟨i,h⟩ | h
   . rw [ja inj h]; exact g'.owG i
   . rw [i9 h]
     intro a o e
     have : frm w.Fr G own js a = some o:=by rw [frO a k (by rw [e]; simp) h]; exact g.owG k _ _ e
     exact g'.frs _ _ this
 . rcases cas k with ⟨i,h⟩ | h
   . rw [ja inj h] at e
     exact ⟨(g'.owF i a e).1,frN a (g'.owF i a e).2⟩
   . rw [i9 h] at e
     refine ⟨?_,(g.owF k a e).2⟩
     cases z : F' a with
     | none => rfl
     | some o => exact absurd (g'.frF a (by rw [z]; simp)) (frO2 a k e h)
 . rcases cas k with ⟨i,h⟩ | h
   . rw [ja inj h] at e
     rcases cas l with ⟨j,h2⟩ | h2
     . rw [ja inj h2]
       refine g'.dis i j a (fun z => hkl ?_) e
       subst z
       rw [h] at h2
       exact Option.some.inj h2
     . rw [i9 h2]
       cases z : own l a with
       | none => rfl
       | some o => exact absurd (g'.owF i a e).2 (frO2 a l (by rw [z]; simp) h2)
   . rw [i9 h] at e
     rcases cas l with ⟨j,h2⟩ | h2
     . rw [ja inj h2]
       cases z : own' j a with
       | none => rfl
       | some o => exact absurd (g'.owF j a (by rw [z]; simp)).2 (frO2 a k e h)
     . rw [i9 h2]; exact g.dis k l a hkl e
 . rcases hb k c e with ⟨i,h1,h2⟩ | ⟨h1,h2⟩
   . obtain ⟨t,e1,e2⟩:=g'.cell i c h2
     rw [List.getElem?_map] at e1
     cases z : ts[i]? with
     | none => rw [z] at e1; cases e1
     | some u =>
      rw [z] at e1
      cases e1
      rw [ja inj h1]
      exact ⟨t,hj i k t h1 z,e2⟩
   . obtain ⟨t,e1,e2⟩:=g.cell k c h2
     rw [i9 h1]
     exact ⟨t,e1,e2.sub x.sub⟩
 . rcases cas k with ⟨i,h⟩ | h
   . rw [ja inj h]; exact m.dO a i e
   . rw [i9 h]
     cases z : own k a with
     | none => rfl
     | some o => exact absurd (m.dF a e).2 (frO2 a k (by rw [z]; simp) h)
end
section
variable {en : En} {X : Cx} {io : Io} {ioc : List Nat} {n : Nat} {a b c e o : Expr} {es : List Expr} {va : VA} {spv : SpV} {dts : List T} {dps : List PV}
def tY (n : Nat) (ioc : List Nat) (sp : SpV) (dps : List PV) (va : VA) : VE:=fun σ Ψ => va σ fun rs σ1 => match eN ioc 0 rs σ1 with
 | some (as,σ2) => as.length + dps.length = n /\ (a7 as).Nodup /\ sp (cz σ2 (as ++ dps.map Sum.inl)) (fun c σr => Ψ (.v c) (backV σr 0 as σ2)) e9
 | none => False
theorem jQ {as : List Ag} {dps : List PV} : aO (as ++ dps.map Sum.inl) = aO as:=by
 funext i
 unfold aO
 rcases Nat.lt_or_ge i as.length with h | h
 . rw [List.getElem?_append_left h]
 . rw [List.getElem?_append_right h,List.getElem?_eq_none h,List.getElem?_map]
   cases dps[i - as.length]? <;> rfl
theorem wg {N : Nat} {w : Fq} {F G : Gp} {own : Nat -> Gp} {S : S2} {σ : SV} {ts : List T} {as : List Ag} {Ψ : Cell -> SV -> Prop} {Φ : QT} (hd : ∀ F,RpL F dts dps) (g : VRel (ak N io w) F own S G σ) (ha : a6 F S ts as) (hl : as.length + dps.length = n) (hn : (a7 as).Nodup)
 (h : spv (cz σ (as ++ dps.map Sum.inl)) Ψ e9) (k : ∀ c σr F' own' G' H t,Ψ c σr -> Ext F F' -> VRel (ak N io w) F' own' S G' (backV σr 0 as σ) -> bu F' H t c -> Tmp (ak N io w) F' own' G' H -> Φ t G') : bV n ioc spv (ts ++ dts) G Φ bH:=by
 have inj:=pO hn
 have ha2 : a6 F S (ts ++ dts) (as ++ dps.map Sum.inl):=a6.app (a6.inls (hd F)) ha
 have hl2 : (ts ++ dts).length = n:=by rw [ha2.len,List.length_append,List.length_map]; exact hl
 have hj : ∀ i k t,aO as i = some k -> (ts ++ dts)[i]? = some t -> S[k]? = some (some t):=by
  intro i k t h1 h2
  rw [<- jQ (dps:=dps)] at h1
  unfold aO at h1
  split at h1
  . rename_i j e
    cases h1
    obtain ⟨u,e1,e2⟩:=ha2.get e
    rw [h2] at e1
    cases e1
    exact e2
  . cases h1
 have gc:=VRel.call (io':=ioc) (js:=aO as) (σa:=cz σ (as ++ dps.map Sum.inl)) g hl2 inj fun i c e => by
  unfold cz at e
  split at e
  . rename_i a ea
    obtain ⟨t,e1,e2⟩:=ha2.get ea
    refine ⟨t,e1,?_⟩
    cases a with
    | inl p =>
     cases e
     refine .inr ⟨?_,p,rfl,e2⟩
     rw [<- jQ (dps:=dps)]
     unfold aO
     rw [ea]
    | inr j =>
     refine .inl ⟨j,?_,e,e2⟩
     rw [<- jQ (dps:=dps)]
     unfold aO
     rw [ea]
  . cases e
 refine ⟨hl2,_,F,_,_,_,e9,gc,h,⟨fun c σ' F' own' H t G' q x g' r m => ?_,fun C fs fT σ' F' own' G' q => q.elim⟩⟩
 obtain ⟨own3,g3,m3⟩:=VRel.back (σb:=backV σ' 0 as σ) g inj hj x g' m fun k c e => by
  rcases nu e with ⟨i,h1,h2⟩ | h1
  . exact .inl ⟨i,h1,by simpa using h2⟩
  . exact .inr h1
 exact k _ _ _ _ _ _ _ q x g3 r m3
theorem qg {N : Nat} {w : Fq} {F G : Gp} {own : Nat -> Gp} {S : S2} {σ : SV} {ts : List T} {as : List Ag} {Ψ : RV -> SV -> Prop} {Φ : QT} (hd : ∀ F,RpL F dts dps) (g : VRel (ak N io w) F own S G σ) (ha : a6 F S ts as) (hl : as.length + dps.length = n) (hn : (a7 as).Nodup)
 (h : spv (cz σ (as ++ dps.map Sum.inl)) (fun c σr => Ψ (.v c) (backV σr 0 as σ)) e9) (k : ∀ r σ' F' own' G' t,Ψ r σ' -> Ext F F' -> VRel (ak N io w) F' own' S G' σ' -> du (ak N io w) F' own' S G' t r -> Φ t G') : bV n ioc spv (ts ++ dts) G Φ bH :=
 wg hd g ha hl hn h fun c σr F' own' G' H t q x g3 r m3 => k _ _ _ _ _ _ q x g3 ⟨H,r,m3⟩
theorem ev_call (hd : ∀ F,RpL F dts dps) (he : ∀ l,Ea en X es l -> E en X e (hM (bV n ioc spv) dts bH l)) (h : dM en X io es va) : Ev en X io e (tY n ioc spv dps va):=bS (he _ h) fun S G Φ ⟨w,F,own,σ,Ψ,g,q,k⟩ => by
 refine ⟨w,F,own,σ,_,g,q,fun rs σ1 F1 own1 G1 ts q1 x1 g1 r1 => ?_⟩
 split at q1
 . rename_i as σ2 e1
   obtain ⟨F2,own2,g2,x2,a2⟩:=jp g1 r1 e1
   exact qg hd g2 a2 q1.1 q1.2.1 q1.2.2 fun r σ' F' own' G' t h1 x h2 h3 => k r σ' F' own' G' t h1 ((x1.trans x2).trans x) h2 h3
 . exact q1.elim
end
def bN (io : List Nat) (σ : SV) : SV:=fun i => if i ∈ io then σ i else none
def jG (io : List Nat) (Ψ : Cell -> SV -> Prop) : VEnds where
 nx:=fun σ => Ψ (.fr .non) (bN io σ)
 rt := fun r σ => match r with
  | .v c => Ψ c (bN io σ)
  | .sl i => i ∉ io /\ match σ i with
   | some c => Ψ c (bN io σ)
   | none => False
theorem yW {N : List Str} {ts : List T} {i : Nat} {t : T} (h : (bo N ts)[i]? = some (some t)) : ts[i]? = some t:=by
 unfold bo at h
 by_cases hl : i < ts.length
 . rw [List.getElem?_append_left (by simpa using hl),List.getElem?_map] at h
   cases q : ts[i]? with
   | none => rw [q] at h; cases h
   | some u => rw [q] at h; cases h; rfl
 . rw [List.getElem?_append_right (by simpa using hl),List.getElem?_replicate] at h
   split at h <;> cases h
theorem v6 {N : List Str} {ts : List T} {i : Nat} {t : T} (h : ts[i]? = some t) : (bo N ts)[i]? = some (some t):=by
 have hl : i < ts.length:=by
  rcases Nat.lt_or_ge i ts.length with z | z
  . exact z
  . rw [List.getElem?_eq_none z] at h; cases h
 unfold bo
 rw [List.getElem?_append_left (by simpa using hl),List.getElem?_map,h]
 rfl
section
variable {P : Program} {w : World} {K : Fr0} {mg : Str -> Option Value} {base : Heap} {x qual : Str} {st : Stmt} {N ps : List Str} {k n : Nat} {spv : SpV} {io : List Nat} {C : Addr}
theorem abV {en : En} {X : Cx} {body : List Stmt} {vs : VS} {ts : List T} {G : Gp} {Φ : QT} {ΦE : cW} (hb : dG en X io body vs) (hN : n <= X.N.length) (h : ∀ σ Ψ ΨE,spv σ Ψ ΨE -> vs (jG io Ψ) σ) (hsp : bV n io spv ts G Φ ΦE) :
 ∃ l,dj en X body l /\ l (gj Φ) (bo X.N ts) G:=by
 obtain ⟨hl,Fr,F,own,σ,Ψ,ΨE,g,hs,cal⟩:=hsp
 refine ⟨_,hb,⟨bo X.N ts,Fr⟩,F,own,σ,_,⟨?_,fun i _ => rfl,g.sub,g.frs,g.frF,g.owG,g.owF,g.dis,fun i c e => ?_,Io.ok0⟩,h σ Ψ ΨE hs,?_⟩
 . unfold bo
   rw [List.length_append,List.length_map,List.length_replicate,hl]
   exact Nat.add_sub_cancel' hN
 . obtain ⟨t,e1,e2⟩:=g.cell i c e
   rw [List.getElem?_map] at e1
   cases q : ts[i]? with
   | none => rw [q] at e1; cases e1
   | some u =>
    rw [q] at e1
    cases e1
    exact ⟨_,v6 q,e2⟩
 . have fin : ∀ {F' : Gp} {own' : Nat -> Gp} {S' : S2} {G' : Gp} {σ' : SV},VRel (ak X.N.length io ⟨bo X.N ts,Fr⟩) F' own' S' G' σ' ->
       VRel ⟨n,io,ts.map some,Fr⟩ F' (fun i => if i ∈ io then own' i else aB) (ts.map some) G' (bN io σ'):=by
     intro F' own' S' G' σ' g'
     refine ⟨by rw [List.length_map]; exact hl,fun i _ => rfl,g'.sub,g'.frs,g'.frF,fun i a o e => ?_,fun i a e => ?_,fun i j a hij e => ?_,fun i c e => ?_,Io.ok0⟩
     . split at e
       . exact g'.owG i _ _ e
       . cases e
     . split at e
       . exact g'.owF i a e
       . exact absurd rfl e
     . split at e
       . split
         . exact g'.dis i j a hij e
         . rfl
       . exact absurd rfl e
     . unfold bN at e
       split at e
       . rename_i hi
         obtain ⟨t,e1,e2⟩:=g'.cell i c e
         have:=g'.pin i hi
         rw [e1] at this
         refine ⟨t,?_,?_⟩
         . rw [List.getElem?_map,yW this.symm]; rfl
         . rw [if_pos hi]; exact e2
       . cases e
   have fint : ∀ {F' : Gp} {own' : Nat -> Gp} {G' H : Gp},Tmp (ak X.N.length io ⟨bo X.N ts,Fr⟩) F' own' G' H -> Tmp ⟨n,io,ts.map some,Fr⟩ F' (fun i => if i ∈ io then own' i else aB) G' H:=by
    intro F' own' G' H m
    refine ⟨m.sub,m.dF,fun a i e => ?_⟩
    split
    . exact m.dO a i e
    . rfl
   refine ⟨fun S' G' σ' F' own' q x' g' => ?_,fun r σ' F' own' S' G' t q x' g' r' => ?_,fun _ _ _ _ _ q => q.elim,fun _ _ _ _ _ q => q.elim⟩
   . exact cI.of (cal.ok _ _ _ _ _ _ _ q x' (fin g') (show bu F' aB .non (.fr .non) from .non) .nil)
   . cases r with
     | v c =>
      obtain ⟨H,h1,h2⟩:=r'
      exact cI.of (cal.ok _ _ _ _ _ _ _ q x' (fin g') h1 (fint h2))
     | sl i =>
      obtain ⟨hi,q⟩:=q
      cases e : σ' i with
      | none => rw [e] at q; exact q.elim
      | some c =>
       rw [e] at q
       obtain ⟨u,e1,e2⟩:=g'.cell i c e
       have r' : S'[i]? = some (some t):=r'
       rw [r'] at e1
       cases e1
       refine cI.of (cal.ok _ _ _ _ _ _ _ q x' (fin g') e2 ⟨g'.owG i,fun a z => g'.owF i a z,fun a j z => ?_⟩)
       split
       . rename_i hj
         exact g'.dis i j a (fun y => hi (by rw [y]; exact hj)) z
       . rfl
abbrev lq (P : Program) (w : World) (K : Fr0) (mg : Str -> Option Value) (base : Heap) (N : List Str) (qual : Str) (scope : Scope) (k : Nat) (body : List Stmt) (io : List Nat) (spv : SpV) : Prop :=
 ∀ (f : Addr) (cdv : Value) (A : Around) (outer : List Env) (s : Shared) (H : Hp) (E : XK) (en : En),Room k (A.deeper (envOfC qual scope s.heap.objs.size f cdv)) ->
  ∃ vs,dG en (bx P w K mg base N qual scope f cdv A outer s H E) io body vs /\ ∀ σ Ψ ΨE,spv σ Ψ ΨE -> vs (jG io Ψ) σ
theorem o3 {scope : Scope} {body : List Stmt} (hN : n <= N.length) (hb : lq P w K mg base N qual scope k body io spv) (f : Addr) : BodyOk P w K mg base N qual scope f k body (bV n io spv):=fun cdv A outer s H E ts G Φ ΦE hr ho hsp => by
 obtain ⟨vs,h1,h2⟩:=hb f cdv A outer s H E [(H,G)] hr
 exact abV h1 hN h2 hsp
abbrev c9 (P : Program) (w : World) (K : Fr0) (mg : Str -> Option Value) (base : Heap) (k : Nat) (x : Str) (n : Nat) (io : List Nat) (spv : SpV) : Prop:=Kn P w K mg base k x (bV n io spv) []
theorem eA (D : Df K mg x st ps) (S : FnScope N ps (defScope st)) (hn : n = ps.length) (hN : n <= N.length) (hb : lq P w K mg base N x (defScope st) k (defBody st) io spv) : c9 P w K mg base (k + 1) x n io spv :=
 mX D S (fun ts G Φ ΦE h => h.1.trans hn) fun f => o3 hN hb f
abbrev mN (P : Program) (w : World) (K : Fr0) (mg : Str -> Option Value) (base : Heap) (k : Nat) (C : Addr) (m : Str) (n : Nat) (io : List Nat) (spv : SpV) : Prop:=KnM P w K mg base k C m (bV n io spv) []
theorem afb {m : Str} (c : Cls K C) (D : DfM K C m qual st ps) (S : FnScope N ps (defScope st)) (hn : n = ps.length) (hN : n <= N.length) (hb : lq P w K mg base N qual (defScope st) k (defBody st) io spv) : mN P w K mg base (k + 1) C m n io spv :=
 vS c D S (fun ts G Φ ΦE h => h.1.trans hn) fun f => o3 hN hb f
abbrev xa (P : Program) (w : World) (K : Fr0) (mg : Str -> Option Value) (base : Heap) (k : Nat) (x : Str) (C : Addr) (n : Nat) (io : List Nat) (spv : SpV) : Prop:=KnI P w K mg base k x C (bV n io spv) []
theorem abD (D : DfI K mg x C qual st ps) (S : FnScope N ps (defScope st)) (hn : n = ps.length) (hN : n <= N.length) (hb : lq P w K mg base N qual (defScope st) k (defBody st) io spv) : xa P w K mg base (k + 1) x C n io spv :=
 vF D S (fun ts G Φ ΦE h => h.1.trans hn) fun f => o3 hN hb f
abbrev pJ (P : Program) (w : World) (K : Fr0) (mg : Str -> Option Value) (base : Heap) (k : Nat) (C : Addr) (m : Str) (io : List Nat) (spv : SpV) : Prop:=KnP P w K mg base k C m (bV 1 io spv)
theorem tq {m : Str} (c : Cls K C) (D : DfP K C m qual st) (S : FnScope N ["self"] (defScope st)) (hN : 1 <= N.length) (hb : lq P w K mg base N qual (defScope st) k (defBody st) io spv) : pJ P w K mg base (k + 1) C m io spv :=
 aaN c D S (fun ts G Φ ΦE h => h.1) fun f => o3 hN hb f
end
section
variable {en : En} {X : Cx} {io : Io} {a b c e o : Expr} {es : List Expr} {va vb vc : VE} {vl vk : VA} {pos p3 : Pos}
def jL : PV -> Bool
 | .lst _ => true
 | _ => false
def mK (ty : String) (kd : PV -> Bool) (r : f6) (rp : PV -> List PV -> (PV -> PV -> Prop) -> Prop) : Prop :=
 (∀ F H G t p,Ow F H t p -> Sub H G -> kd p = true -> g9 ty t G) /\
 ∀ (F G H : Gp) (t : T) (p : PV) (ts : List T) (ps : List PV) (Ψ : PV -> PV -> Prop) (Φ : QT),Sub F G -> Ow F H t p -> Sub H G -> (∀ a,H a ≠ none -> F a = none) -> RpL F ts ps -> rp p ps Ψ ->
  (∀ res p' t' a o o',t = .ref a -> H = one a o -> Ψ res p' -> Rp F t' res -> Ow F (one a o') t p' -> Φ t' (gup G a o')) -> r t ts G Φ
def oO (kd : PV -> Bool) (rp : PV -> List PV -> (PV -> PV -> Prop) -> Prop) (i : Nat) (va : VA) : VE:=fun σ Ψ => (match σ i with
    | some (.ow p) => kd p = true
    | _ => False) /\ va σ fun rs σ1 => match fC σ1 rs with
 | some (ps,σ2) => (match σ2 i with
  | some (.ow p) => rp p ps fun res p' => Ψ (.v (.fr res)) (ac σ2 i (some (.ow p')))
  | _ => False)
 | none => False
theorem adf {N : Nat} {ty : String} {kd : PV -> Bool} {r : f6} {rp : PV -> List PV -> (PV -> PV -> Prop) -> Prop} {i : Nat} {la : LE} (h : mK ty kd r rp) (hla : ∀ S G Φ t,S[i]? = some (some t) -> Φ t G -> la S G Φ) : ∀ S G Φ,bJ N io (oO kd rp i vl) S G Φ -> iL ty r la (jN N io vl) S G Φ:=fun S G Φ ⟨w,F,own,σ,Ψ,g,⟨q0,q⟩,k⟩ => by
 cases e0 : σ i with
 | none => rw [e0] at q0; exact q0.elim
 | some c0 =>
  rw [e0] at q0
  cases c0 with
  | ow p0 =>
   obtain ⟨t,ht,hc⟩:=g.cell i _ e0
   refine hla S G _ t ht ⟨h.1 _ _ _ _ _ hc (g.owG i) q0,?_⟩
   refine ⟨w,F,own,σ,_,g,q,fun rs σ1 F1 own1 G1 ts q1 x1 g1 r1 => ?_⟩
   split at q1
   . rename_i ps σ2 e1
     obtain ⟨F2,own2,g2,x2,r2⟩:=iZ g1 r1 e1
     split at q1
     . rename_i p e2
       obtain ⟨t2,ht2,hc2⟩:=g2.cell i _ e2
       rw [ht] at ht2
       cases ht2
       refine h.2 _ _ _ _ _ _ _ _ _ g2.sub hc2 (g2.owG i) (fun a z => (g2.owF i a z).1) r2 q1 fun res p' t' a o o' e3 e4 q2 rr ow' => ?_
       obtain ⟨own3,g3,x3⟩:=g2.mut (o':=o') (c:=.ow p') e4 ⟨t,ht,ow'⟩
       exact k _ _ _ _ _ _ q2 ((x1.trans x2).trans x3) g3 ⟨aB,rr,.nil⟩
     . exact q1.elim
   . exact q1.elim
  | _ => exact q0.elim
theorem lA {S : S2} {i : Nat} : ∀ (G : Gp) (Φ : QT) (t : T),S[i]? = some (some t) -> Φ t G -> cr i S G Φ:=fun G Φ t h q => by
 unfold cr
 rw [ef h]
 exact q
theorem fG {ty : String} {kd : PV -> Bool} {r : f6} {rp : PV -> List PV -> (PV -> PV -> Prop) -> Prop} {i : Nat} (he : ∀ l,Ea en X es l -> E en X e (iL ty r (cr i) l)) (h : mK ty kd r rp) (ha : dM en X io es vl) : Ev en X io e (oO kd rp i vl) :=
 bS (he _ ha) (adf h fun S G Φ t => lA G Φ t)
theorem sT : ∀ F H G t p,Ow F H t p -> Sub H G -> jL p = true -> g9 "list" t G:=fun F H G t p h s k => by
 cases p with
 | lst ps => obtain ⟨a,ts,rfl,rfl,_⟩:=h; simp [g9,s _ _ bL]
 | _ => cases k
def th : PV -> List PV -> (PV -> PV -> Prop) -> Prop
 | .lst xs,[q],k => xs.length < sizeLine /\ k .non (.lst (xs ++ [q]))
 | _,_,_ => False
theorem iF : mK "list" jL iD th:=⟨sT,fun F G H t p ts ps Ψ Φ s ow sh _ r hh k => by
 match p,ps,hh with
 | .lst xs,[q],hh =>
  obtain ⟨a,us,rfl,rfl,r0⟩:=ow
  cases r with
  | cons h1 h2 =>
   cases h2
   simp only [iD,sh _ _ bL]
   exact ⟨by rw [r0.length]; exact hh.1,k _ _ _ _ _ _ rfl rfl hh.2 .non ⟨a,_,rfl,rfl,r0.app (.cons h1 .nil)⟩⟩⟩
def uo : PV -> List PV -> (PV -> PV -> Prop) -> Prop
 | .lst xs,[.lst ys],k => xs.length + ys.length <= sizeLine /\ k .non (.lst (xs ++ ys))
 | _,_,_ => False
theorem xY : mK "list" jL lz uo:=⟨sT,fun F G H t p ts ps Ψ Φ s ow sh _ r hh k => by
 match p,ps,hh with
 | .lst xs,[.lst ys],hh =>
  obtain ⟨a,us,rfl,rfl,r0⟩:=ow
  cases r with
  | cons h1 h2 =>
   cases h2
   cases h1 with
   | lst hb rb =>
    simp only [lz,sh _ _ bL,s _ _ hb]
    exact ⟨by rw [r0.length,rb.length]; exact hh.1,k _ _ _ _ _ _ rfl rfl hh.2 .non ⟨a,_,rfl,rfl,r0.app rb⟩⟩⟩
theorem RpL.dropLast {F : Gp} {ts : List T} {ps : List PV} (r : RpL F ts ps) : RpL F ts.dropLast ps.dropLast:=by
 rw [List.dropLast_eq_take,List.dropLast_eq_take,r.length]
 exact r.take _
def lP : PV -> List PV -> (PV -> PV -> Prop) -> Prop
 | .lst xs,[],k => (match xs[xs.length - 1]? with
  | some u => k u (.lst xs.dropLast)
  | none => False)
 | .lst xs,[.int i],k => (0 <= i /\ i < 2 ^ 63) /\ (match xs[i.toNat]? with
  | some u => k u (.lst (xs.eraseIdx i.toNat))
  | none => False)
 | _,_,_ => False
theorem aet : mK "list" jL gJ lP:=⟨sT,fun F G H t p ts ps Ψ Φ s ow sh _ r hh k => by
 match p,ps,hh with
 | .lst xs,[],hh =>
  obtain ⟨a,us,rfl,rfl,r0⟩:=ow
  cases r
  simp only [gJ,sh _ _ bL]
  simp only [lP] at hh
  split at hh
  . rename_i u e
    obtain ⟨t,e1,e2⟩:=r0.get e
    rw [r0.length,e1]
    exact k _ _ _ _ _ _ rfl rfl hh e2 ⟨a,_,rfl,rfl,r0.dropLast⟩
  . exact hh.elim
 | .lst xs,[.int i],hh =>
  obtain ⟨a,us,rfl,rfl,r0⟩:=ow
  cases r with
  | cons h1 h2 =>
   cases h2
   cases h1
   simp only [gJ,sh _ _ bL]
   simp only [lP] at hh
   refine ⟨hh.1,?_⟩
   have hh:=hh.2
   split at hh
   . rename_i u e
     obtain ⟨t,e1,e2⟩:=r0.get e
     rw [e1]
     exact k _ _ _ _ _ _ rfl rfl hh e2 ⟨a,_,rfl,rfl,r0.erase _⟩
   . exact hh.elim⟩
def q7 (i : Nat) (vi vv : VE) : VS:=fun L σ => vv σ fun r σ1 => match tk σ1 r with
 | some (p,σ2) => (σ2 i).isSome = true /\ vi σ2 fun r2 σ3 => (match rd σ3 r2,σ3 i with
  | some (.int k),some (.ow (.lst xs)) => (match ixN xs.length k with
   | some j => L.nx (ac σ3 i (some (.ow (.lst (xs.set j p)))))
   | none => False)
  | some q,some (.ow (.dic kvs)) => (match dU q with
   | some y => kvs.length < sizeLine /\ L.nx (ac σ3 i (some (.ow (.dic (eF kvs y p)))))
   | none => False)
  | _,_ => False)
 | none => False
theorem aaL {i : Nat} {st : Stmt} (he : ∀ li lv,E en X a li -> E en X b lv -> Es en X st (kY (cr i) li lv)) (hi : Ev en X io a va) (hv : Ev en X io b vb) : cS en X io st (q7 i va vb):=eU (he _ _ hi hv) fun L S G ⟨w,F,own,σ,VL,g,q,kk⟩ => by
 refine ⟨w,F,own,σ,_,g,q,fun r σ1 F1 own1 G1 tv q1 x1 g1 r1 => ?_⟩
 split at q1
 . rename_i p σ2 e1
   obtain ⟨F2,own2,g2,x2,rp⟩:=g1.tk r1 e1
   obtain ⟨q0,q1⟩:=q1
   obtain ⟨c0,e0⟩:=Option.isSome_iff_exists.mp q0
   obtain ⟨t,ht,_⟩:=g2.cell i c0 e0
   refine lA G1 _ t ht ?_
   refine ⟨w,F2,own2,σ2,_,g2,q1,fun r2 σ3 F3 own3 G3 u q3 x3 g3 r3 => ?_⟩
   have x:=(x1.trans x2).trans x3
   split at q3
   . rename_i k xs e2 e3
     obtain ⟨t',ht',hc⟩:=g3.cell i _ e3
     rw [ht] at ht'
     cases ht'
     obtain ⟨a,us,rfl,ho,r0⟩:=hc
     obtain rfl : u = .int k:=g3.rdV r3 e2
     have hG : G3 a = some (.lst us):=g3.owG i _ _ (by rw [ho]; exact bL)
     split at q3
     . rename_i j ej
       rw [<- r0.length] at ej
       simp only [setT,hG,ej]
       obtain ⟨own4,g4,x4⟩:=g3.mut (o':=.lst (us.set j tv)) (c:=.ow (.lst (xs.set j p))) ho ⟨.ref a,ht,a,_,rfl,rfl,r0.set (rp.sub x3.sub) j⟩
       exact kk.nx _ _ _ _ _ q3 (x.trans x4) g4
     . exact q3.elim
   . rename_i q kvs e2 e3
     obtain ⟨t',ht',hc⟩:=g3.cell i _ e3
     rw [ht] at ht'
     cases ht'
     obtain ⟨a,us,rfl,ho,r0⟩:=hc
     have hG : G3 a = some (.dic us):=g3.owG i _ _ (by rw [ho]; exact bL)
     split at q3
     . rename_i y ey
       obtain ⟨rfl,kt⟩:=lT ((g3.rdV r3 e2).rp g3.sub) ey
       simp only [setT,hG,kt]
       obtain ⟨own4,g4,x4⟩:=g3.mut (o':=.dic (dput us (kT y) tv)) (c:=.ow (.dic (eF kvs y p))) ho ⟨.ref a,ht,a,_,rfl,rfl,r0.put (rp.sub x3.sub)⟩
       exact ⟨by rw [r0.length]; exact q3.1,kk.nx _ _ _ _ _ q3.2 (x.trans x4) g4⟩
     . exact q3.elim
   . exact q3.elim
 . exact q1.elim
theorem adJ : ∀ y : Key,(bK (kT y)).isSome = true
 | .inl _ => rfl
 | .inr _ => rfl
end
section
variable {en : En} {X : Cx} {io : Io} {ioc : List Nat} {n : Nat} {a b c e o tg iter elt kx vx : Expr} {es ifs : List Expr} {st : Stmt} {ss : List Stmt} {va vb vc te tv : VE} {tt : VT} {vl vk : VA} {vs : VS} {vi : VI} {spv : SpV} {dts : List T} {dps : List PV} {pos : Pos} {C : Addr} {m : Str} {f : T -> S2 -> Option S2} {fv : PV -> SV -> Option SV} {us : List Nat} {scope : Scope}
def InsC (C : Addr) (m : Str) : Option Cell -> Prop
 | some (.fr (.ins C' fs)) => C' = C /\ fs.lookup m = none
 | some (.ow (.ins C' fs)) => C' = C /\ fs.lookup m = none
 | some (.ab R) => ∀ H t,R H t -> ∃ a fs,t = .ref a /\ H a = some (.ins C fs) /\ fs.lookup m = none
 | some (.af R) => ∀ F0 H t,R F0 H t -> ∃ a fs,t = .ref a /\ H a = some (.ins C fs) /\ fs.lookup m = none
 | _ => False
def pM (C : Addr) (m : Str) (σ : SV) : RV -> Prop
 | .v c => InsC C m (some c)
 | .sl i => InsC C m (σ i)
theorem adn {fx : Fx} {F G : Gp} {own : Nat -> Gp} {S : S2} {σ : SV} (g : VRel fx F own S G σ) {t : T} {r : RV} (h : pM C m σ r) (rr : du fx F own S G t r) : ∃ a fs,t = .ref a /\ G a = some (.ins C fs) /\ fs.lookup m = none:=by
 have key : ∀ {H : Gp} {c : Cell},InsC C m (some c) -> bu F H t c -> Sub H G -> ∃ a fs,t = .ref a /\ G a = some (.ins C fs) /\ fs.lookup m = none:=by
  intro H c hc hr hs
  cases c with
  | fr p =>
   cases p with
   | ins C' fs =>
    obtain ⟨rfl,hm⟩:=hc
    cases hr with
    | ins h1 h2 =>
     refine ⟨_,_,rfl,g.sub _ _ h1,?_⟩
     rcases h2.look (f:=m) with ⟨e1,_⟩ | ⟨t,p,_,e2,_⟩
     . exact e1
     . rw [hm] at e2; cases e2
   | _ => exact hc.elim
  | ow p =>
   cases p with
   | ins C' fs =>
    obtain ⟨rfl,hm⟩:=hc
    obtain ⟨a,ts,rfl,rfl,h2⟩:=hr
    refine ⟨_,_,rfl,hs _ _ bL,?_⟩
    rcases h2.look (f:=m) with ⟨e1,_⟩ | ⟨t,p,_,e2,_⟩
    . exact e1
    . rw [hm] at e2; cases e2
   | _ => exact hc.elim
  | ab R =>
   obtain ⟨a,fs,h1,h2,h3⟩:=hc H t hr
   exact ⟨a,fs,h1,hs _ _ h2,h3⟩
  | af R =>
   obtain ⟨F0,_,hr⟩:=hr
   obtain ⟨a,fs,h1,h2,h3⟩:=hc F0 H t hr
   exact ⟨a,fs,h1,hs _ _ h2,h3⟩
 cases r with
 | v c =>
  obtain ⟨H,h1,h2⟩:=rr
  exact key h h1 h2.sub
 | sl i =>
  have rr : S[i]? = some (some t):=rr
  have h : InsC C m (σ i):=h
  cases e : σ i with
  | none => rw [e] at h; exact h.elim
  | some c =>
   rw [e] at h
   obtain ⟨t',e1,e2⟩:=g.cell i c e
   rw [rr] at e1
   cases e1
   exact key h e2 (g.owG i)
def nq (C : Addr) (m : Str) (n : Nat) (ioc : List Nat) (sp : SpV) (dps : List PV) (va : VE) (vl : VA) : VE:=fun σ Ψ => va σ fun r σ0 => pM C m σ0 r /\ match fz r with
 | some r => vl σ0 fun rs σ1 => (match eN ioc 0 (r :: rs) σ1 with
  | some (as,σ2) => as.length + dps.length = n /\ (a7 as).Nodup /\ sp (cz σ2 (as ++ dps.map Sum.inl)) (fun c σr => Ψ (.v c) (backV σr 0 as σ2)) e9
  | none => False)
 | none => False
theorem ac6 {N : Nat} (hd : ∀ F,RpL F dts dps) : ∀ S G Φ,bJ N io (nq C m n ioc spv dps va vl) S G Φ -> jH C m (bV n ioc spv) dts bH (bJ N io va) (jN N io vl) S G Φ:=fun S G Φ ⟨w,F,own,σ,Ψ,g,q,k⟩ => by
 refine ⟨w,F,own,σ,_,g,q,fun r σ1 F1 own1 G1 t q1 x1 g1 r1 => ?_⟩
 obtain ⟨a,fs,rfl,hG,hm⟩:=adn g1 q1.1 r1
 simp only [hG]
 refine ⟨trivial,hm,?_⟩
 have q1:=q1.2
 split at q1
 . rename_i r' e0
   obtain ⟨F2,g2,x2,ar⟩:=g1.fz r1 e0
   refine ⟨w,F2,own1,σ1,_,g2,q1,fun rs σ3 F3 own3 G3 ts q3 x3 g3 ar3 => ?_⟩
   split at q3
   . rename_i as σ4 e4
     obtain ⟨F4,own4,g4,x4,a4⟩:=jp (rs:=r' :: rs) (ts:=.ref a :: ts) g3 ⟨ar.sub x3.sub,ar3⟩ e4
     have:=qg (ioc:=ioc) hd g4 a4 q3.1 q3.2.1 q3.2.2 fun r σ' F' own' G' t h1 x h2 h3 => k r σ' F' own' G' t h1 ((((x1.trans x2).trans x3).trans x4).trans x) h2 h3
     simpa using this
   . exact q3.elim
 . exact q1.elim
theorem qe (hd : ∀ F,RpL F dts dps) (he : ∀ la l,E en X o la -> Ea en X es l -> E en X e (jH C m (bV n ioc spv) dts bH la l)) (ho : Ev en X io o va) (h : dM en X io es vl) : Ev en X io e (nq C m n ioc spv dps va vl):=bS (he _ _ ho h) (ac6 hd)
def mY (C : Addr) : Option Cell -> Prop
 | some (.fr (.ins C' fs)) => C' = C
 | some (.ow (.ins C' fs)) => C' = C
 | some (.ab R) => ∀ H t,R H t -> ∃ a fs,t = .ref a /\ H a = some (.ins C fs)
 | some (.af R) => ∀ F0 H t,R F0 H t -> ∃ a fs,t = .ref a /\ H a = some (.ins C fs)
 | _ => False
def nS (C : Addr) (σ : SV) : RV -> Prop
 | .v c => mY C (some c)
 | .sl i => mY C (σ i)
theorem acT {fx : Fx} {F G : Gp} {own : Nat -> Gp} {S : S2} {σ : SV} (g : VRel fx F own S G σ) {t : T} {r : RV} (h : nS C σ r) (rr : du fx F own S G t r) : ∃ a fs,t = .ref a /\ G a = some (.ins C fs):=by
 have key : ∀ {H : Gp} {c : Cell},mY C (some c) -> bu F H t c -> Sub H G -> ∃ a fs,t = .ref a /\ G a = some (.ins C fs):=by
  intro H c hc hr hs
  cases c with
  | fr p =>
   cases p with
   | ins C' fs =>
    cases hc
    cases hr with
    | ins h1 h2 => exact ⟨_,_,rfl,g.sub _ _ h1⟩
   | _ => exact hc.elim
  | ow p =>
   cases p with
   | ins C' fs =>
    cases hc
    obtain ⟨a,ts,rfl,rfl,h2⟩:=hr
    exact ⟨_,_,rfl,hs _ _ bL⟩
   | _ => exact hc.elim
  | ab R =>
   obtain ⟨a,fs,h1,h2⟩:=hc H t hr
   exact ⟨a,fs,h1,hs _ _ h2⟩
  | af R =>
   obtain ⟨F0,_,hr⟩:=hr
   obtain ⟨a,fs,h1,h2⟩:=hc F0 H t hr
   exact ⟨a,fs,h1,hs _ _ h2⟩
 cases r with
 | v c =>
  obtain ⟨H,h1,h2⟩:=rr
  exact key h h1 h2.sub
 | sl i =>
  have rr : S[i]? = some (some t):=rr
  have h : mY C (σ i):=h
  cases e : σ i with
  | none => rw [e] at h; exact h.elim
  | some c =>
   rw [e] at h
   obtain ⟨t',e1,e2⟩:=g.cell i c e
   rw [rr] at e1
   cases e1
   exact key h e2 (g.owG i)
def vg (C : Addr) (ioc : List Nat) (sp : SpV) (va : VE) : VE:=fun σ Ψ => va σ fun r σ0 => nS C σ0 r /\ match fz r with
 | some r => (match eN ioc 0 [r] σ0 with
  | some (as,σ2) => (a7 as).Nodup /\ sp (cz σ2 as) (fun c σr => Ψ (.v c) (backV σr 0 as σ2)) e9
  | none => False)
 | none => False
theorem sU {ioc : List Nat} : ∀ {rs : List RV} {i : Nat} {σ σ' : SV} {as : List Ag},eN ioc i rs σ = some (as,σ') -> as.length = rs.length
 | [],i,σ,σ',as,e => by cases e; rfl
 | r :: rs,i,σ,σ',as,e => by
  unfold eN at e
  split at e
  . split at e
    . split at e
      . rename_i e1; cases e; exact congrArg Nat.succ (sU e1)
      . cases e
    . cases e
  . split at e
    . split at e
      . rename_i e1; cases e; exact congrArg Nat.succ (sU e1)
      . cases e
    . cases e
theorem jb (he : ∀ la,E en X o la -> E en X e (o4 C (bV 1 ioc spv) la)) (ho : Ev en X io o va) : Ev en X io e (vg C ioc spv va):=bS (he _ ho) fun S G Φ ⟨w,F,own,σ,Ψ,g,q,k⟩ => by
 refine ⟨w,F,own,σ,_,g,q,fun r σ1 F1 own1 G1 t q1 x1 g1 r1 => ?_⟩
 obtain ⟨a,fs,rfl,hG⟩:=acT g1 q1.1 r1
 simp only [hG]
 refine ⟨trivial,?_⟩
 have q1:=q1.2
 split at q1
 . rename_i r' e0
   obtain ⟨F2,g2,x2,ar⟩:=g1.fz r1 e0
   split at q1
   . rename_i as σ4 e4
     obtain ⟨F4,own4,g4,x4,a4⟩:=jp (rs:=[r']) (ts:=[.ref a]) g2 ⟨ar,trivial⟩ e4
     have:=qg (ioc:=ioc) (dts:=[]) (dps:=[]) (n:=1) (fun F => .nil) g4 a4 (sU e4) q1.1 (by simpa using q1.2) fun r σ' F' own' G' t h1 x h2 h3 => k r σ' F' own' G' t h1 (((x1.trans x2).trans x4).trans x) h2 h3
     simpa using this
   . exact q1.elim
 . exact q1.elim
def qf (C : Addr) (f : Str) (va : VE) : VE:=fun σ Ψ => va σ fun r σ1 => match rd σ1 r with
 | some (.ins C' fs) => C' = C /\ (match fs.lookup f with
  | some u => Ψ (.v (.fr u)) σ1
  | none => False)
 | _ => False
theorem fQ {fl : Str} (he : ∀ la,E en X o la -> E en X e (lK C fl la)) (ho : Ev en X io o va) : Ev en X io e (qf C fl va):=bS (he _ ho) fun S G Φ ⟨w,F,own,σ,Ψ,g,q,k⟩ => by
 refine ⟨w,F,own,σ,_,g,q,fun r σ1 F1 own1 G1 t q1 x1 g1 r1 => ?_⟩
 split at q1
 . rename_i C' fs e1
   obtain ⟨a,ts,rfl,hG,rf⟩:=g1.rdV r1 e1
   obtain ⟨rfl,q1⟩:=q1
   simp only [hG]
   refine ⟨trivial,?_⟩
   split at q1
   . rename_i u e2
     rcases rf.look (f:=fl) with ⟨_,z⟩ | ⟨t,p,z1,z2,z3⟩
     . rw [e2] at z; cases z
     . rw [e2] at z2
       cases z2
       rw [z1]
       exact k _ _ _ _ _ _ q1 x1 g1 ⟨aB,z3,.nil⟩
   . exact q1.elim
 . exact q1.elim
def hH (f : Str) (v : PV) : List (Str × PV) -> List (Str × PV)
 | [] => [(f,v)]
 | p :: r => if p.1 = f then (f,v) :: r else p :: hH f v r
theorem RpF.put {F : Gp} {f : Str} {t : T} {p : PV} (h : Rp F t p) : ∀ {ts : List (Str × T)} {ps : List (Str × PV)},RpF F ts ps -> RpF F (putT f t ts) (hH f p ps)
 | _,_,.nil => .cons h .nil
 | _, _, .cons (k := j) hr r => by
  unfold putT hH
  by_cases e : j = f
  . subst e
    rw [if_pos rfl,if_pos rfl]
    exact .cons h r
  . rw [if_neg e,if_neg e]
    exact .cons hr (RpF.put h r)
def qZ (C : Addr) (f : Str) (i : Nat) (vv : VE) : VS:=fun L σ => vv σ fun r σ1 => match tk σ1 r with
 | some (p,σ2) => (match σ2 i with
  | some (.ow (.ins C' fs)) => C' = C /\ fs.length < 1000 /\ L.nx (ac σ2 i (some (.ow (.ins C (hH f p fs)))))
  | _ => False)
 | none => False
theorem acz {fl : Str} {i : Nat} (he : ∀ lv,E en X b lv -> Es en X st (o9 C fl (cr i) lv)) (hv : Ev en X io b vb) : cS en X io st (qZ C fl i vb):=eU (he _ hv) fun L S G ⟨w,F,own,σ,VL,g,q,kk⟩ => by
 refine ⟨w,F,own,σ,_,g,q,fun r σ1 F1 own1 G1 tv q1 x1 g1 r1 => ?_⟩
 split at q1
 . rename_i p σ2 e1
   obtain ⟨F2,own2,g2,x2,rp⟩:=g1.tk r1 e1
   split at q1
   . rename_i C' fs e2
     obtain ⟨t,ht,hc⟩:=g2.cell i _ e2
     obtain ⟨a,us,rfl,ho,r0⟩:=hc
     obtain ⟨rfl,hl,q1⟩:=q1
     refine lA G1 _ _ ht ?_
     have hG : G1 a = some (.ins C' us):=g2.owG i _ _ (by rw [ho]; exact bL)
     simp only [hG]
     obtain ⟨own4,g4,x4⟩:=g2.mut (o':=.ins C' (putT fl tv us)) (c:=.ow (.ins C' (hH fl p fs))) ho ⟨.ref a,ht,a,_,rfl,rfl,r0.put rp⟩
     exact ⟨trivial,by rw [r0.length]; exact hl,kk.nx _ _ _ _ _ q1 ((x1.trans x2).trans x4) g4⟩
   . exact q1.elim
 . exact q1.elim
theorem cu.app {F : Gp} {S : S2} {us : List T} {qs : List RV} (h2 : cu F S us qs) : ∀ {ts : List T} {rs : List RV},cu F S ts rs -> cu F S (ts ++ us) (rs ++ qs)
 | [],[],_ => h2
 | _ :: _,_ :: _,h => ⟨h.1,cu.app h2 h.2⟩
 | [],_ :: _,h => h.elim
 | _ :: _,[],h => h.elim
theorem cu.len {F : Gp} {S : S2} : ∀ {ts : List T} {rs : List RV},cu F S ts rs -> ts.length = rs.length
 | [],[],_ => rfl
 | _ :: _,_ :: _,h => congrArg Nat.succ (cu.len h.2)
 | [],_ :: _,h => h.elim
 | _ :: _,[],h => h.elim
def aW (c : Cell) (σ : SV) : SV:=fun i => match i with
 | 0 => some c
 | i + 1 => σ i
theorem VRel.ext {N : Nat} {w : Fq} {F G : Gp} {own : Nat -> Gp} {S : S2} {σ : SV} (g : VRel (ak N io w) F own S G σ) {x : Addr} (hx : G x = none) :
    VRel (ak (N + 1) ⟨[],none⟩ w) F (ec own N (one x (.ins C []))) (S ++ [some (.ref x)]) (gup G x (.ins C [])) (ac σ N (some (.ow (.ins C [])))):=by
 obtain ⟨g1,m1⟩:=g.fresh (Fresh.new (o:=.ins C []) hx)
 have hS : S.length = N:=g.len
 have lt : ∀ {i : Nat} {c : Cell},σ i = some c -> i < N:=fun h => g.lt h
 refine ⟨by rw [List.length_append,hS]; rfl,(by intro i hi; cases hi),g1.sub,g1.frs,g1.frF,fun i a o e => ?_,fun i a e => ?_,fun i j a hij e => ?_,fun i c e => ?_,Io.ok0⟩
 . by_cases z : i = N
   . subst z; rw [bC] at e; exact m1.sub _ _ e
   . rw [bf z] at e; exact g1.owG i _ _ e
 . by_cases z : i = N
   . subst z; rw [bC] at e; exact m1.dF a e
   . rw [bf z] at e; exact g1.owF i a e
 . by_cases z : i = N
   . subst z
     rw [bC] at e
     rw [bf (fun y => hij y.symm)]
     exact m1.dO a j e
   . rw [bf z] at e
     by_cases y : j = N
     . subst y
       rw [bC]
       cases q : one x (.ins C []) a with
       | none => rfl
       | some o => exact absurd (m1.dO a i (by rw [q]; simp)) e
     . rw [bf y]; exact g1.dis i j a hij e
 . by_cases z : i = N
   . subst z
     rw [cf,if_pos rfl] at e
     cases e
     rw [bC]
     exact ⟨.ref x,by rw [List.getElem?_append_right (by omega),hS]; simp,x,[],rfl,rfl,.nil⟩
   . rw [cf,if_neg z] at e
     obtain ⟨t,e1,e2⟩:=g1.cell i c e
     rw [bf z]
     exact ⟨t,by rw [List.getElem?_append_left (by rw [hS]; exact lt e)]; exact e1,e2⟩
theorem VRel.unext {N : Nat} {w : Fq} {F F0 G G0 : Gp} {own own0 : Nat -> Gp} {S : S2} {σ σ0 : SV} (g0 : VRel (ak N io w) F0 own0 S G0 σ0) {x : T} (g : VRel (ak (N + 1) ⟨[],none⟩ w) F own (S ++ [some x]) G σ) {c : Cell} (h : σ N = some c) (px : io.Ok w.S0 w.Fr F) :
    VRel (ak N io w) F (ec own N aB) S G (ac σ N none) /\ bu F (own N) x c /\ Tmp (ak N io w) F (ec own N aB) G (own N):=by
 have hS : S.length = N:=g0.len
 refine ⟨⟨hS,g0.pin,g.sub,g.frs,g.frF,fun i a o e => ?_,fun i a e => ?_,fun i j a hij e => ?_,fun i d e => ?_,px⟩,?_,⟨g.owG N,fun a e => g.owF N a e,fun a i e => ?_⟩⟩
 . by_cases z : i = N
   . subst z; rw [bC] at e; cases e
   . rw [bf z] at e; exact g.owG i _ _ e
 . by_cases z : i = N
   . subst z; rw [bC] at e; exact absurd rfl e
   . rw [bf z] at e; exact g.owF i a e
 . by_cases z : i = N
   . subst z; rw [bC] at e; exact absurd rfl e
   . rw [bf z] at e
     by_cases y : j = N
     . subst y; rw [bC]; rfl
     . rw [bf y]; exact g.dis i j a hij e
 . by_cases z : i = N
   . subst z; rw [cf,if_pos rfl] at e; cases e
   . rw [cf,if_neg z] at e
     obtain ⟨t,e1,e2⟩:=g.cell i d e
     have : i < N + 1:=g.lt e
     rw [List.getElem?_append_left (by omega)] at e1
     rw [bf z]
     exact ⟨t,e1,e2⟩
 . obtain ⟨t,e1,e2⟩:=g.cell N c h
   rw [List.getElem?_append_right (by omega),hS] at e1
   simp at e1
   subst e1
   exact e2
 . by_cases z : i = N
   . subst z; rw [bC]; rfl
   . rw [bf z]; exact g.dis N i a (fun y => z y.symm) e
def so (C : Addr) (n : Nat) (ioc : List Nat) (sp : SpV) (dps : List PV) (vl : VA) : VE:=fun σ Ψ => vl σ fun rs σ1 => match eN ioc 1 rs σ1 with
 | some (as,σ2) => 1 + as.length + dps.length = n /\ (a7 as).Nodup /\ 0 ∈ ioc /\ sp (aW (.ow (.ins C [])) (cz σ2 (as ++ dps.map Sum.inl))) (fun c σr => c = .fr .non /\ match σr 0 with
  | some c0 => Ψ (.v c0) (backV σr 1 as σ2)
  | none => False) e9
 | none => False
theorem pU {fx : Fx} {F : Gp} {own : Nat -> Gp} {S : S2} {G : Gp} {σ : SV} (g : VRel fx F own S G σ) : ∀ {ts : List T} {as : List Ag},a6 F S ts as -> ∀ j ∈ a7 as,j < fx.N
 | [],[],_,j,h => by cases h
 | _ :: ts,.inl _ :: as,h,j,hj => pU g (ts:=ts) (as:=as) h.2 j (by simpa [a7] using hj)
 | _ :: ts,.inr i :: as,h,j,hj => by
  rcases List.mem_cons.mp (by simpa [a7] using hj) with rfl | hj
  . rw [<- g.len]
    rcases Nat.lt_or_ge j S.length with z | z
    . exact z
    . have:=h.1; rw [List.getElem?_eq_none z] at this; cases this
  . exact pU g (ts:=ts) (as:=as) h.2 j hj
 | [],_ :: _,h,_,_ => h.elim
 | _ :: _,[],h,_,_ => h.elim
theorem adX {σ : SV} {N : Nat} {c : Option Cell} {as : List Ag} (h : ∀ j ∈ a7 as,j < N) : cz (ac σ N c) as = cz σ as:=by
 funext i
 unfold cz
 split
 . rename_i a e
   cases a with
   | inl p => rfl
   | inr j =>
    have hj : j ∈ a7 as:=lH (i:=i) (by unfold aO; rw [e])
    show ac σ N c j = σ j
    rw [cf,if_neg (by have:=h j hj; omega)]
 . rfl
theorem z8 {as : List Ag} {dps : List PV} : a7 (as ++ dps.map Sum.inl) = a7 as:=by
 induction as with
 | nil => induction dps with
  | nil => rfl
  | cons p ps ih => simpa [a7] using ih
 | cons a as ih => cases a <;> simp [a7,ih]
theorem aax {σ : SV} {N : Nat} (h : σ N = none) : ac σ N none = σ:=by
 funext i; simp only [ac]; split
 . rename_i e; rw [e,h]
 . rfl
theorem qW {σr : SV} {N : Nat} {c : Option Cell} : ∀ {as : List Ag} {d : Nat} {σ : SV},(∀ j ∈ a7 as,j < N) -> ac (backV σr d as (ac σ N c)) N none = ac (backV σr d as σ) N none
 | [],d,σ,h => by funext i; unfold backV; simp only [ac]; split <;> simp_all
 | .inl p :: as,d,σ,h => by unfold backV; exact qW (as:=as) (fun j hj => h j (by simpa [a7] using hj))
 | .inr j :: as,d,σ,h => by
  unfold backV
  have ih:=qW (σr:=σr) (c:=c) (as:=as) (d:=d + 1) (σ:=σ) (fun j hj => h j (by simp [a7,hj]))
  funext i
  have ih:=congrFun ih i
  simp only [ac] at ih ⊢
  by_cases e : i = N
  . simp [e]
  . simp only [e,if_false] at ih ⊢
    by_cases e2 : i = j
    . simp [e2]
    . simp only [e2,if_false]; exact ih
theorem qy {σr : SV} {N : Nat} : ∀ {as : List Ag} {d : Nat} {σ : SV},(∀ j ∈ a7 as,j < N) -> σ N = none -> backV σr d as σ N = none
 | [],d,σ,h,e => e
 | .inl p :: as,d,σ,h,e => by unfold backV; exact qy (as:=as) (fun j hj => h j (by simpa [a7] using hj)) e
 | .inr j :: as,d,σ,h,e => by
  unfold backV
  rw [cf,if_neg (by have:=h j (by simp [a7]); omega)]
  exact qy (as:=as) (fun j hj => h j (by simp [a7,hj])) e
theorem aaf {N : Nat} {w : Fq} {F G : Gp} {own : Nat -> Gp} {S : S2} {σ : SV} {ts : List T} {as : List Ag} {Ψ : RV -> SV -> Prop} {Φ : QT} (hd : ∀ F,RpL F dts dps) (g : VRel (ak N io w) F own S G σ) (ha : a6 F S ts as) (hl : 1 + as.length + dps.length = n) (hn : (a7 as).Nodup)
 (h : spv (aW (.ow (.ins C [])) (cz σ (as ++ dps.map Sum.inl))) (fun c σr => c = .fr .non /\ match σr 0 with
    | some c0 => Ψ (.v c0) (backV σr 1 as σ)
    | none => False) e9) (k : ∀ r σ' F' own' G' t,Ψ r σ' -> Ext F F' -> VRel (ak N io w) F' own' S G' σ' -> du (ak N io w) F' own' S G' t r -> Φ t G') {x : Addr} (hx : G x = none) :
    bV n ioc spv (.ref x :: (ts ++ dts)) (gup G x (.ins C [])) (fun t G2 => t = .non /\ Φ (.ref x) G2) bH:=by
 have hS : S.length = N:=g.len
 have gx:=g.ext (C:=C) hx
 have hlt : ∀ j ∈ a7 as,j < N:=pU g ha
 have hsN : σ N = none:=by
  cases e : σ N with
  | none => rfl
  | some c => have:=g.lt e; exact absurd this (Nat.lt_irrefl _)
 have hsl : ∀ {ts : List T} {as : List Ag},a6 F S ts as -> a6 F (S ++ [some (.ref x)]) ts as:=by
  intro ts
  induction ts with
  | nil => intro as h; cases as <;> exact h
  | cons t ts ih =>
   intro as h
   cases as with
   | nil => exact h.elim
   | cons a as =>
    cases a with
    | inl p => exact ⟨h.1,ih h.2⟩
    | inr j =>
     have hj:=h.1
     refine ⟨?_,ih h.2⟩
     rw [List.getElem?_append_left]
     . exact hj
     . rcases Nat.lt_or_ge j S.length with z | z
       . exact z
       . rw [List.getElem?_eq_none z] at hj; cases hj
 have haN : a6 F (S ++ [some (.ref x)]) (.ref x :: ts) (.inr N :: as):=⟨by rw [List.getElem?_append_right (by omega),hS]; simp,hsl ha⟩
 have hnN : (a7 (.inr N :: as)).Nodup:=List.nodup_cons.mpr ⟨fun z => Nat.lt_irrefl _ (hlt _ z),hn⟩
 have e1 : cz (ac σ N (some (.ow (.ins C [])))) ((.inr N :: as) ++ dps.map Sum.inl) = aW (.ow (.ins C [])) (cz σ (as ++ dps.map Sum.inl)):=by
  funext i
  cases i with
  | zero => simp [cz,aW,cellOf,ac]
  | succ i =>
   have:=congrFun (adX (σ:=σ) (N:=N) (c:=some (.ow (.ins C []))) (as:=as ++ dps.map Sum.inl) (by rw [z8]; exact hlt)) i
   simpa [cz,aW] using this
 have:=wg (N:=N + 1) (io:=⟨[],none⟩) (w:=w) (n:=n) (spv:=spv) (ioc:=ioc) (as:=.inr N :: as) (ts:=.ref x :: ts) (Φ:=fun t G2 => t = .non /\ Φ (.ref x) G2) hd gx haN (by rw [List.length_cons]; omega) hnN (by rw [e1]; exact h)
  fun c σr F' own' G' H t hr x' g' rr m => ?_
 . simpa using this
 . obtain ⟨rfl,h0⟩:=hr
   have rr : Rp F' t .non:=rr
   cases rr
   cases e0 : σr 0 with
   | none => rw [e0] at h0; exact h0.elim
   | some c0 =>
    rw [e0] at h0
    have g' : VRel (ak (N + 1) ⟨[],none⟩ w) F' own' (S ++ [some (.ref x)]) G' (ac (backV σr 1 as (ac σ N (some (.ow (.ins C []))))) N (σr 0)):=g'
    obtain ⟨g3,c3,m3⟩:=VRel.unext (c:=c0) g g' (by rw [cf,if_pos rfl]; exact e0) (g.px.up x'.sub)
    have e2 : ac (ac (backV σr 1 as (ac σ N (some (.ow (.ins C []))))) N (σr 0)) N none = backV σr 1 as σ:=by
     have e3 : ac (ac (backV σr 1 as (ac σ N (some (.ow (.ins C []))))) N (σr 0)) N none = ac (backV σr 1 as (ac σ N (some (.ow (.ins C []))))) N none:=by
      funext i; simp only [ac]; split <;> rfl
     rw [e3,qW hlt]
     exact aax (qy hlt hsN)
    rw [e2] at g3
    exact ⟨rfl,k _ _ _ _ _ _ h0 x' g3 ⟨_,c3,m3⟩⟩
theorem rY (hd : ∀ F,RpL F dts dps) (he : ∀ l,Ea en X es l -> E en X e (mn C (bV n ioc spv) dts bH l)) (h : dM en X io es vl) : Ev en X io e (so C n ioc spv dps vl):=bS (he _ h) fun S G Φ ⟨w,F,own,σ,Ψ,g,q,k⟩ => by
 refine ⟨w,F,own,σ,_,g,q,fun rs σ1 F1 own1 G1 ts q1 x1 g1 r1 x hx => ?_⟩
 split at q1
 . rename_i as σ2 e1
   obtain ⟨F2,own2,g2,x2,a2⟩:=jp g1 r1 e1
   exact aaf hd g2 a2 q1.1 q1.2.1 q1.2.2.2 (fun r σ' F' own' G' t h1 x h2 h3 => k r σ' F' own' G' t h1 ((x1.trans x2).trans x) h2 h3) hx
 . exact q1.elim
end
section
variable {en : En} {X : Cx} {io : Io} {ioc : List Nat} {n : Nat} {a b c e o tg iter elt kx vx : Expr} {es ifs : List Expr} {st : Stmt} {ss : List Stmt} {va vb vc te tk' tv : VE} {tt : VT} {vl vk : VA} {vs : VS} {vi : VI} {pos spos py : Pos} {C : Addr} {m y : Str} {f : T -> S2 -> Option S2} {fv : PV -> SV -> Option SV} {us : List Nat} {scope : Scope}
theorem aam {l l' : LS} (h : Es en X st l) (w : Shared -> ∀ L S G,l' L S G -> l L S G) : Es en X st l':=⟨fun pins s σ H D I q => h.run pins s σ H D I (let ⟨S,G,L,sr,g,q,k⟩:=q; ⟨S,G,L,sr,g,w s L S G q,k⟩)⟩
theorem wN (own : List (Str × Nat)) {j : Nat} (hN : X.N.Nodup) (hi : gW en X io tg iter vi) (hg : cj X scope fun Y => Egv Y io tg f fv (slotsOf own)) (ht : cj X scope fun Y => ki en Y io ifs tt) (he : cj X scope fun Y => Ev en Y io elt te) (ho : eW f (slotsOf own))
 (hio : ∀ j ∈ slotsOf own,j ∉ io:=by first | decide | exact pF (by decide)) (hj : j ∉ io:=by first | decide | exact mq (by decide)) (hy : X.N[j]? = some y:=by rfl) (hyl : X.env.scope.names.lookup y = some .local:=by rfl) (hc : X.calm = true:=by rfl) (ok : blkC X.N X.env.scope scope own = true:=by rfl) (hs : ∀ x,foldedSetIterable iter X.env x = pure x:=by intro _; rfl)
 (hsw : swapsWith (.ListComp elt [⟨tg,iter,ifs,0⟩] scope pos) (some (.Name y py)) spos.line X.env = pure true:=by rfl) :
    cS en X io (.Assign [.Name y py] (.ListComp elt [⟨tg,iter,ifs,0⟩] scope pos) spos) (mE j (lu vi fv (slotsOf own) tt te)):=by
 have h:=wR (w:=jT X.N.length io vi) (tt:=d3 X.N.length io tt) (te:=bJ X.N.length io te) (pos:=pos) (spos:=spos) (py:=py) own hN hi (fun s H C cl fp => (hg s H C cl fp).eg) ht he hy hyl hc ok hs hsw
 exact aam h fun s L S G q => zx (hg s (fun _ => none) 0 [] []).gv ho hio S G _ (zb (k9 hy) hj L S G q)
def iR (fv : PV -> SV -> Option SV) (us : List Nat) (tt : VT) (tk' tv : VE) (Fin : List (Key × PV) -> SV -> Prop) : List PV -> List (Key × PV) -> SV -> Prop
 | [],acc,σ => Fin acc σ
 | p :: r,acc,σ => match fv p (ay σ us) with
  | some σ' => tt σ' fun b σ1 => if b = true then tk' σ1 fun y σ2 => (match (rd σ2 y).bind dU with
      | some key => tv σ2 fun z σ3 => (match tk σ3 z with
       | some (q,σ4) => acc.length < sizeLine /\ iR fv us tt tk' tv Fin r (eF acc key q) (ay σ4 us)
       | none => False)
      | none => False) else iR fv us tt tk' tv Fin r acc (ay σ1 us)
  | none => False
def oR (vi : VI) (fv : PV -> SV -> Option SV) (us : List Nat) (tt : VT) (tk' tv : VE) : VE:=fun σ Ψ => vi σ fun ps σ1 => iR fv us tt tk' tv (fun acc σ2 => Ψ (.v (.ow (.dic acc))) σ2) ps [] (ay σ1 us)
theorem uK {N : Nat} {w : Fq} (hg : GV N io f fv) (ho : eW f us) (hio : ∀ j ∈ us,j ∉ io) {Keep : Gp -> Prop} {Fin : List (Key × PV) -> SV -> Prop} {FinT : List (T × T) -> Gp -> Prop} {F0 : Gp} {S : S2}
 (hF : ∀ acc accT F own G σ,Fin acc σ -> Ext F0 F -> VRel (ak N io w) F own S G σ -> RpD F accT acc -> FinT accT G) :
 ∀ (ps : List PV) (ts : List T) (acc : List (Key × PV)) (accT : List (T × T)) (F : Gp) (own : Nat -> Gp) (G : Gp) (σ : SV),VRel (ak N io w) F own S G (ay σ us) -> Ext F0 F -> RpL F ts ps -> RpD F accT acc -> (∀ G'',Sub F G'' -> Keep G'') -> iR fv us tt tk' tv Fin ps acc (ay σ us) ->
     fO Keep f us (d3 N io tt) (bJ N io tk') (bJ N io tv) FinT S ts accT G
 | [],_,acc,accT,F,own,G,σ,g,x,.nil,ra,hk,q => ⟨hk _ g.sub,hF _ _ _ _ _ _ q x g ra⟩
 | p :: ps, _, acc, accT, F, own, G, σ, g, x, .cons (t := t) (ts := ts) r rs, ra, hk, q => by
  refine ⟨hk _ g.sub,?_⟩
  simp only [iR] at q
  split at q
  . rename_i σ' e
    have g0:=g.dels us hio
    obtain ⟨S',own',f1,g1⟩:=hg _ _ _ _ _ _ _ _ _ g0 r e
    rw [f1]
    obtain ⟨hl,hn⟩:=ho _ _ _ f1
    have hl' : S.length = S'.length:=by rw [hl,sN]
    have hn' : ∀ i,i ∉ us -> S'[i]? = S[i]?:=fun i hi => (hn i hi).trans (rE hi)
    refine ⟨w,F,own',σ',_,g1,q,fun b σ1 F1 own1 G1 q1 x1 g2 => ?_⟩
    cases b with
    | false => exact ⟨G1,Sub.refl _,uK hg ho hio hF ps ts acc accT F1 own1 G1 σ1 (g2.outer us hl' hn' hio) (x.trans x1) (rs.sub x1.sub) (ra.sub x1.sub) (fun G'' s => hk _ (x1.sub.trans s)) q1⟩
    | true =>
     refine ⟨w,F1,own1,σ1,_,g2,q1,fun y σ2 F2 own2 G2 ty q2 x2 g3 r3 => ?_⟩
     split at q2
     . rename_i key ek
       cases e0 : rd σ2 y with
       | none => rw [e0] at ek; cases ek
       | some p0 =>
        rw [e0] at ek
        obtain ⟨rfl,kt⟩:=lT ((g3.rdV r3 e0).rp g3.sub) ek
        refine ⟨w,F2,own2,σ2,_,g3,q2,fun z σ3 F3 own3 G3 tz q3 x3 g4 r4 => ?_⟩
        split at q3
        . rename_i u σ4 e4
          obtain ⟨F4,own4,g5,x4,rp⟩:=g4.tk r4 e4
          have xx:=((x1.trans x2).trans x3).trans x4
          exact ⟨by rw [(ra).length]; exact q3.1,adJ _,G3,Sub.refl _,uK hg ho hio hF ps ts _ _ F4 own4 G3 σ4 (g5.outer us hl' hn' hio) (x.trans xx) (rs.sub xx.sub) ((ra.sub xx.sub).put rp) (fun G'' s => hk _ (xx.sub.trans s)) q3.2⟩
        . exact q3.elim
     . exact q2.elim
  . exact q.elim
theorem ac8 {N : Nat} (hg : GV N io f fv) (ho : eW f us) (hio : ∀ j ∈ us,j ∉ io) : ∀ S G Φ,bJ N io (oR vi fv us tt tk' tv) S G Φ -> lm (jT N io vi) f us (d3 N io tt) (bJ N io tk') (bJ N io tv) S G Φ:=fun S G Φ ⟨w,F,own,σ,Ψ,g,q,k⟩ => by
 refine ⟨w,F,own,σ,_,g,q,fun ps σ' F' own' G' ts Keep q1 x1 g1 r1 hk => ?_⟩
 have g1' : VRel (ak N io w) F' own' S G' (ay σ' us):=g1.outer us rfl (fun _ _ => rfl) hio
 refine uK hg ho hio (F0:=F') (fun acc accT F2 own2 G2 σ2 q2 x2 g2 ra p hp => ?_) ps ts [] [] F' own' G' σ' g1' .refl r1 .nil hk q1
 obtain ⟨g3,m3⟩:=g2.fresh (Fresh.new (o:=.dic accT) hp)
 exact k _ _ _ _ _ _ q2 (x1.trans x2) g3 ⟨_,⟨p,_,rfl,rfl,ra⟩,m3⟩
theorem aba (own : List (Str × Nat)) (hN : X.N.Nodup) (hi : gW en X io tg iter vi) (hg : cj X scope fun Y => Egv Y io tg f fv (slotsOf own)) (ht : cj X scope fun Y => ki en Y io ifs tt) (hk : cj X scope fun Y => Ev en Y io kx tk') (hv : cj X scope fun Y => Ev en Y io vx tv) (ho : eW f (slotsOf own))
 (hio : ∀ j ∈ slotsOf own,j ∉ io:=by first | decide | exact pF (by decide)) (hc : X.calm = true:=by rfl) (ok : blkC X.N X.env.scope scope own = true:=by rfl) (hs : ∀ x,foldedSetIterable iter X.env x = pure x:=by intro _; rfl) :
    Ev en X io (.DictComp kx vx [⟨tg,iter,ifs,0⟩] scope pos) (oR vi fv (slotsOf own) tt tk' tv):=by
 have h:=xf (w:=jT X.N.length io vi) (tt:=d3 X.N.length io tt) (tk:=bJ X.N.length io tk') (tv:=bJ X.N.length io tv) (pos:=pos) own hN hi (fun s H C cl fp => (hg s H C cl fp).eg) ht hk hv hc ok hs
 exact pZ h fun s => ac8 (hg s (fun _ => none) 0 [] []).gv ho hio
theorem Ow.mono {F F' H : Gp} {t : T} {p : PV} (r : Ow F H t p) (s : Le F F') : Ow F' H t p:=by
 cases p with
 | lst ps => obtain ⟨a,ts,h1,h2,h3⟩:=r; exact ⟨a,ts,h1,h2,h3.mono s⟩
 | dic ps => obtain ⟨a,ts,h1,h2,h3⟩:=r; exact ⟨a,ts,h1,h2,h3.mono s⟩
 | ins C ps => obtain ⟨a,ts,h1,h2,h3⟩:=r; exact ⟨a,ts,h1,h2,h3.mono s⟩
 | dicN ps => obtain ⟨a,ts,h1,h2,h3⟩:=r; exact ⟨a,ts,h1,h2,h3.mono s⟩
 | _ => exact r.elim
theorem bu.mono {F F' H : Gp} {t : T} {c : Cell} (r : bu F H t c) (s : Le F F') : bu F' H t c:=by
 cases c with
 | fr p => exact Rp.mono s r
 | ow p => exact Ow.mono r s
 | ab R => exact r
 | af R => obtain ⟨F0,s0,h⟩:=r; exact ⟨F0,s0.trans s,h⟩
theorem Le.relock {F : Gp} {d : Addr} {ts : List (T × T)} {o' : O} (h : aG F d = some ts) (h' : aG (gup F d o') d = some ts) : Le F (gup F d o'):=by
 have nl : ∀ a l,F a = some (.lst l) -> a ≠ d:=fun a l e z => by subst z; unfold aG at h; rw [e] at h; cases h
 have ni : ∀ a C l,F a = some (.ins C l) -> a ≠ d:=fun a C l e z => by subst z; unfold aG at h; rw [e] at h; cases h
 have nd : ∀ a l,eI F a = some l -> a ≠ d:=fun a l e z => by
  subst z
  unfold aG at h
  unfold eI at e
  split at h <;> rename_i e1 <;> first | (rw [e1] at e; cases e) | cases h
 refine ⟨fun a l e => by rw [ao (nl a l e)]; exact e,fun a l e => ?_,fun a C l e => by rw [ao (ni a C l e)]; exact e,fun a l e => by unfold eI; rw [ao (nd a l e)]; exact e⟩
 by_cases z : a = d
 . subst z; rw [h] at e; cases e; exact h'
 . unfold aG; rw [ao z]; exact e
theorem VRel.relock {fx : Fx} {F G : Gp} {own : Nat -> Gp} {S : S2} {σ : SV} (g : VRel fx F own S G σ) {d : Addr} {ts : List (T × T)} {o' : O} (h : aG F d = some ts) (h' : aG (gup F d o') d = some ts) (h0 : fx.io.b = none) : VRel fx (gup F d o') own S (gup G d o') σ:=by
 have hne : F d ≠ none:=fun z => by unfold aG at h; rw [z] at h; cases h
 have up : ∀ {M : Gp},M d = none -> Sub M G -> Sub M (gup G d o'):=fun hm s b u e => by
  rw [ao (fun z => by rw [z,hm] at e; cases e)]
  exact s b u e
 have ne : ∀ a,gup F d o' a ≠ none -> F a ≠ none:=fun a e => by
  by_cases z : a = d
  . subst z; exact hne
  . rw [ao z] at e; exact e
 have own0 : ∀ i,own i d = none:=fun i => by
  cases z : own i d with
  | none => rfl
  | some o => exact absurd (g.owF i d (by rw [z]; simp)).1 hne
 refine ⟨g.len,g.pin,g.sub.gup2,up (g.frF d hne) g.frs,fun a e => g.frF a (ne a e),fun i => up (own0 i) (g.owG i),fun i a e => ⟨?_,(g.owF i a e).2⟩,g.dis,fun i c e => ?_,fun _ _ _ e => by rw [h0] at e; cases e⟩
 . cases z : gup F d o' a with
   | none => rfl
   | some o => exact absurd (g.owF i a e).1 (ne a (by rw [z]; simp))
 . obtain ⟨t,e1,e2⟩:=g.cell i c e
   exact ⟨t,e1,e2.mono (.relock h h')⟩
theorem Tmp.relock {fx : Fx} {F G H : Gp} {own : Nat -> Gp} (m : Tmp fx F own G H) {d : Addr} {o' : O} (hne : F d ≠ none) : Tmp fx (gup F d o') own (gup G d o') H:=by
 have hd : H d = none:=by
  cases z : H d with
  | none => rfl
  | some o => exact absurd (m.dF d (by rw [z]; simp)).1 hne
 refine ⟨fun b u e => ?_,fun a e => ⟨?_,(m.dF a e).2⟩,m.dO⟩
 . rw [ao (fun z => by rw [z,hd] at e; cases e)]; exact m.sub _ _ e
 . rw [ao (fun z => by rw [z] at e; exact e hd)]; exact (m.dF a e).1
theorem du.relock {fx : Fx} {F G : Gp} {own : Nat -> Gp} {S : S2} {t : T} {r : RV} {d : Addr} {ts : List (T × T)} {o' : O} (h : aG F d = some ts) (h' : aG (gup F d o') d = some ts) (rr : du fx F own S G t r) : du fx (gup F d o') own S (gup G d o') t r:=by
 cases r with
 | v c =>
  obtain ⟨H,h1,h2⟩:=rr
  exact ⟨H,h1.mono (.relock h h'),h2.relock fun z => by unfold aG at h; rw [z] at h; cases h⟩
 | sl i => exact rr
def kL (N : Nat) (io : Io) (la : LE) (vd : SV -> Option (List (Key × PV) × SV)) : Prop:=∀ w F own S G σ kvs σ',VRel (ak N io w) F own S G σ -> vd σ = some (kvs,σ') -> ∃ F' own' d ts,VRel (ak N io w) F' own' S G σ' /\ Ext F F' /\ aG F' d = some ts /\ RpD F' ts kvs /\
 ∀ G' Φ,(∀ a C fs,G a = some (.ins C fs) -> G' a = some (.ins C fs)) -> Φ (.ref d) G' -> la S G' Φ
def pL (i : Nat) : SV -> Option (List (Key × PV) × SV):=fun σ => match tk σ (.sl i) with
 | some (.dic kvs,σ') => some (kvs,σ')
 | _ => none
theorem uZ {N i : Nat} : kL N io (cr i) (pL i):=fun w F own S G σ kvs σ' g e => by
 unfold pL at e
 split at e
 . rename_i kv σ1 e1
   cases e
   have : ∃ t,S[i]? = some (some t):=by
    have hs : (σ i).isSome = true:=by
     cases z : σ i with
     | none => simp [Vl.tk,Vl.giv,z] at e1
     | some c => rfl
    obtain ⟨c,hc⟩:=Option.isSome_iff_exists.mp hs
    obtain ⟨t,ht,_⟩:=g.cell i c hc
    exact ⟨t,ht⟩
   obtain ⟨t,ht⟩:=this
   obtain ⟨F',own',g',x',rp⟩:=g.tk (r:=.sl i) (t:=t) ht e1
   cases rp with
   | dic h r => exact ⟨F',own',_,_,g',x',h,r,fun G' Φ _ q => lA G' Φ _ ht q⟩
 . cases e
def nV (C : Addr) (f : Str) (i : Nat) : SV -> Option (List (Key × PV) × SV):=fun σ => match rd σ (.sl i) with
 | some (.ins C' fs) => (match fs.lookup f with
  | some (.dic kvs) => if C' = C then some (kvs,σ) else none
  | _ => none)
 | _ => none
theorem v2 {N i : Nat} {fl : Str} : kL N io (lK C fl (cr i)) (nV C fl i):=fun w F own S G σ kvs σ' g e => by
 unfold nV at e
 split at e
 . rename_i C' fs e1
   split at e
   . rename_i kv e2
     split at e
     . rename_i hC
       subst hC
       cases e
       have hs : (σ i).isSome = true:=by
        cases z : σ i with
        | none => simp [Vl.rd,z] at e1
        | some c => rfl
       obtain ⟨c,hc⟩:=Option.isSome_iff_exists.mp hs
       obtain ⟨t,ht,_⟩:=g.cell i c hc
       obtain ⟨a,ts,rfl,hG,rf⟩:=g.rdA (r:=.sl i) ht e1
       rcases rf.look (f:=fl) with ⟨_,z⟩ | ⟨u,p,z1,z2,z3⟩
       . rw [e2] at z; cases z
       . rw [e2] at z2
         cases z2
         cases z3 with
         | dic h r =>
          refine ⟨F,own,_,_,g,.refl,h,r,fun G' Φ hk q => ?_⟩
          refine lA G' _ _ ht ?_
          simp only [hk a _ _ hG,z1]
          exact ⟨trivial,q⟩
     . cases e
   . cases e
 . cases e
theorem zK {l l' : LS} (h : Es en X st l) (h' : Es en X st l') : Es en X st (fun L S G => l L S G \/ l' L S G):=⟨fun pins s σ H D I ⟨S,G,L,sr,g,q,k⟩ => q.elim (fun q => h.run pins s σ H D I ⟨S,G,L,sr,g,q,k⟩) (fun q => h'.run pins s σ H D I ⟨S,G,L,sr,g,q,k⟩)⟩
theorem tZ {l l' : LE} (h : E en X e l) (h' : E en X e l') : E en X e (fun S G Φ => l S G Φ \/ l' S G Φ):=⟨fun pins s σ H Q I ⟨S,G,Φ,sr,g,q,k⟩ => q.elim (fun q => h.run pins s σ H Q I ⟨S,G,Φ,sr,g,q,k⟩) (fun q => h'.run pins s σ H Q I ⟨S,G,Φ,sr,g,q,k⟩)⟩
def mi (vd : SV -> Option (List (Key × PV) × SV)) (fv : PV -> SV -> Option SV) (b : VS) : VS:=fun L σ => match vd σ with
 | some (kvs,σ1) => gE L fv b (kvs.map fun kv => kP kv.1) σ1
 | none => False
theorem nN {F : Gp} {d : Addr} {ob : Obj} {raw : List (Key × V)} {ts : List (T × T)} : aG (gup F d (.fdic ob raw ts)) d = some ts:=by unfold aG; rw [aH]
theorem m7 {F : Gp} {d : Addr} {ts : List (T × T)} : aG (gup F d (.dic ts)) d = some ts:=by unfold aG; rw [aH]
theorem w8 {F F' : Gp} {d : Addr} {o o' : O} (h : F d = some o) (s : Sub (gup F d o') F') : Sub F (gup F' d o):=fun a u e => by
 by_cases z : a = d
 . subst z; rw [aH,<- h]; exact e
 . rw [ao z]; exact s a u (by rw [ao z]; exact e)
theorem adu {N : Nat} {la : LE} {vd : SV -> Option (List (Key × PV) × SV)} (hd : kL N io la vd) (hg : GV N io f fv) (h0 : io.b = none) : ∀ L S G,gQ N io (mi vd fv vs) L S G -> s9 (lQ (fB la) f (gQ N io vs)) L S G \/ lQ (fB la) f (gQ N io vs) L S G:=fun L S G ⟨w,F,own,σ,VL,g,q,ok⟩ => by
 simp only [mi] at q
 split at q
 . rename_i kvs σ1 e
   obtain ⟨F1,own1,d,ts,g1,x1,hd1,rd1,hla⟩:=hd _ _ _ _ _ _ _ _ g e
   have ok1:=ok.step x1
   rcases iX hd1 with hF | ⟨ob,raw,hF⟩
   . refine .inl ⟨d,?_⟩
     rw [g1.sub _ _ hF]
     intro ob raw
     have hl:=g1.relock (o':=.fdic ob raw ts) hd1 nN h0
     refine hla _ _ (fun a C fs h => ?_) ?_
     . rw [ao]
       . exact h
       . intro z; subst z; rw [g1.sub _ _ hF] at h; cases h
     . simp only [d8,aH]
       have bk : ∀ {F' : Gp} {own' : Nat -> Gp} {S' : S2} {G' : Gp} {σ' : SV},Ext (gup F1 d (.fdic ob raw ts)) F' -> VRel (ak N io w) F' own' S' G' σ' -> G' d = some (.fdic ob raw ts) /\ F' d = some (.fdic ob raw ts) /\ Ext F1 (gup F' d (.dic ts)) /\ VRel (ak N io w) (gup F' d (.dic ts)) own' S' (gup G' d (.dic ts)) σ':=by
        intro F' own' S' G' σ' x' g'
        have h1 : F' d = some (.fdic ob raw ts):=x'.sub _ _ aH
        exact ⟨g'.sub _ _ h1,h1,⟨w8 hF x'.sub⟩,g'.relock (ts:=ts) (by unfold aG; rw [h1]) m7 h0⟩
       refine oP hg _ _ _ _ _ _ _ hl (rd1.keysL.mono (.relock hd1 nN)) (fun G'' s => s _ _ aH) ⟨?_,?_,?_,?_⟩ q
       . intro S' G' σ' F' own' q' x' g'
         obtain ⟨h1,h2,h3,h4⟩:=bk x' g'
         exact ⟨h1,ok1.nx _ _ _ _ _ q' h3 h4⟩
       . intro r σ' F' own' S' G' t q' x' g' r'
         obtain ⟨h1,h2,h3,h4⟩:=bk x' g'
         exact ⟨h1,ok1.rt _ _ _ _ _ _ _ q' h3 h4 (r'.relock (ts:=ts) (by unfold aG; rw [h2]) m7)⟩
       . intro S' G' σ' F' own' q' x' g'
         obtain ⟨h1,h2,h3,h4⟩:=bk x' g'
         exact ⟨h1,ok1.bk _ _ _ _ _ q' h3 h4⟩
       . intro S' G' σ' F' own' q' x' g'
         obtain ⟨h1,h2,h3,h4⟩:=bk x' g'
         exact ⟨h1,ok1.ct _ _ _ _ _ q' h3 h4⟩
   . refine .inr ?_
     refine hla _ _ (fun a C fs h => h) ?_
     simp only [d8,g1.sub _ _ hF]
     exact oP hg _ _ _ _ _ _ _ g1 rd1.keysL (fun G'' s => s _ _ hF) ok1 q
 . exact q.elim
theorem tT {la : LE} {vd : SV -> Option (List (Key × PV) × SV)} (hd : kL X.N.length io la vd) (hp : PassesOwn (model X.prog X.w) X.A X.env X.xe) (hc : X.calm = true) (hi : E en X iter la) (hg : Egv X io tg f fv us) (hb : dG en X io ss vs)
 (hs : ∀ x,foldedSetIterable iter X.env x = pure x:=by intro _; rfl) (h0 : io.b = none:=by rfl) (hw : X.w = Dv.Wld.w:=by rfl) : cS en X io (.For tg iter ss [] pos) (mi vd fv vs):=by
 have h:=pW (pos:=pos) hp hc (gh (tg:=tg) hi hw) hg.eg hb hs
 exact eU (zK (adF h) h) (adu hd hg.gv h0)
def ll (vd : SV -> Option (List (Key × PV) × SV)) (fv : PV -> SV -> Option SV) (us : List Nat) (tt : VT) (te : VE) : VE:=fun σ Ψ => match vd σ with
 | some (kvs,σ1) => fY fv us tt te (fun acc σ2 => Ψ (.v (.ow (.lst acc))) σ2) (kvs.map fun kv => kP kv.1) [] (ay σ1 us)
 | none => False
theorem aa9 {N : Nat} {la : LE} {vd : SV -> Option (List (Key × PV) × SV)} (hd : kL N io la vd) (hg : GV N io f fv) (ho : eW f us) (hio : ∀ j ∈ us,j ∉ io) (h0 : io.b = none) : ∀ S G Φ,bJ N io (ll vd fv us tt te) S G Φ -> mO (fH (fB la) f us (d3 N io tt) (bJ N io te)) S G Φ \/ fH (fB la) f us (d3 N io tt) (bJ N io te) S G Φ:=fun S G Φ ⟨w,F,own,σ,Ψ,g,q,k⟩ => by
 simp only [ll] at q
 split at q
 . rename_i kvs σ1 e
   obtain ⟨F1,own1,d,ts,g1,x1,hd1,rd1,hla⟩:=hd _ _ _ _ _ _ _ _ g e
   rcases iX hd1 with hF | ⟨ob,raw,hF⟩
   . refine .inl ⟨d,?_⟩
     rw [g1.sub _ _ hF]
     intro ob raw
     have hl:=g1.relock (o':=.fdic ob raw ts) hd1 nN h0
     refine hla _ _ (fun a C fs h => ?_) ?_
     . rw [ao]
       . exact h
       . intro z; subst z; rw [g1.sub _ _ hF] at h; cases h
     . simp only [d8,aH]
       have hl':=hl.outer us rfl (fun _ _ => rfl) hio
       refine lZ hg ho hio (F0:=gup F1 d (.fdic ob raw ts)) (fun acc accT F2 own2 G2 σ2 q2 x2 g2 ra p hp => ?_) _ _ [] [] _ own1 _ σ1 hl' .refl (rd1.keysL.mono (.relock hd1 nN)) .nil (fun G'' s => s _ _ aH) q
       have h1 : F2 d = some (.fdic ob raw ts):=x2.sub _ _ aH
       have hpd : p ≠ d:=fun z => by rw [z,g2.sub _ _ h1] at hp; cases hp
       obtain ⟨g3,m3⟩:=g2.fresh (Fresh.new (o:=.lst accT) hp)
       refine ⟨by rw [ao (fun z => hpd z.symm)]; exact g2.sub _ _ h1,?_⟩
       have h2 : aG F2 d = some ts:=by unfold aG; rw [h1]
       exact k _ _ _ _ _ _ q2 (x1.trans ⟨w8 hF x2.sub⟩) (g3.relock h2 m7 h0) (du.relock (r:=.v (.ow (.lst acc))) h2 m7 ⟨_,⟨p,_,rfl,rfl,ra⟩,m3⟩)
   . refine .inr ?_
     refine hla _ _ (fun a C fs h => h) ?_
     simp only [d8,g1.sub _ _ hF]
     have hl':=g1.outer us rfl (fun _ _ => rfl) hio
     refine lZ hg ho hio (F0:=F1) (fun acc accT F2 own2 G2 σ2 q2 x2 g2 ra p hp => ?_) _ _ [] [] _ own1 _ σ1 hl' .refl rd1.keysL .nil (fun G'' s => s _ _ hF) q
     obtain ⟨g3,m3⟩:=g2.fresh (Fresh.new (o:=.lst accT) hp)
     exact k _ _ _ _ _ _ q2 (x1.trans x2) g3 ⟨_,⟨p,_,rfl,rfl,ra⟩,m3⟩
 . exact q.elim
theorem ym {la : LE} {vd : SV -> Option (List (Key × PV) × SV)} (own : List (Str × Nat)) (hd : kL X.N.length io la vd) (hN : X.N.Nodup) (hi : E en X iter la) (hg : cj X scope fun Y => Egv Y io tg f fv (slotsOf own)) (ht : cj X scope fun Y => ki en Y io ifs tt) (he : cj X scope fun Y => Ev en Y io elt te) (ho : eW f (slotsOf own))
 (hio : ∀ j ∈ slotsOf own,j ∉ io:=by first | decide | exact pF (by decide)) (hc : X.calm = true:=by rfl) (ok : blkC X.N X.env.scope scope own = true:=by rfl) (hs : ∀ x,foldedSetIterable iter X.env x = pure x:=by intro _; rfl) (h0 : io.b = none:=by rfl) (hw : X.w = Dv.Wld.w:=by rfl) :
    Ev en X io (.ListComp elt [⟨tg,iter,ifs,0⟩] scope pos) (ll vd fv (slotsOf own) tt te):=by
 have h:=jq (w:=fB la) (tt:=d3 X.N.length io tt) (te:=bJ X.N.length io te) (pos:=pos) own hN (gh (tg:=tg) hi hw) (fun s H C cl fp => (hg s H C cl fp).eg) ht he hc ok hs
 exact pZ (tZ (tM h) h) fun s => aa9 hd (hg s (fun _ => none) 0 [] []).gv ho hio h0
end
def drw (n : Nat) : Gp -> T -> Prop:=fun H t => ∃ d,t = .ref d /\ H = one d (.drw n)
def scr (a : Addr) : Gp -> T -> Prop:=fun _ t => t = .ref a
def bp : SV:=fun _ => none
def bt (n : Nat) : SV:=aW (.ab (drw n)) bp
def eK : SpV:=fun σ Ψ _ => ∃ n k,σ 0 = some (.ab (drw n)) /\ σ 1 = some (.fr (.int k)) /\ (0 < k /\ k < 2 ^ 30) /\ n < dw /\ ∀ r,0 <= r -> r < k -> Ψ (.fr (.int r)) (bt (n + 1))
theorem afo {σ : SV} {n : Nat} : ∀ i c,bt n i = some c -> ac σ 0 (some (.ab (drw n))) i = some c:=fun i c e => by
 cases i with
 | zero => exact e
 | succ i => cases e
theorem ae6 {ts : List T} (h : ts.length = 2) : ∃ t u,ts = [t,u]:=by
 match ts,h with
 | [t,u],_ => exact ⟨t,u,rfl⟩
theorem adx : ∀ ts G Φ ΦE,bV 2 [0] eK ts G Φ ΦE -> oG ts G Φ ΦE:=by
 intro ts G Φ ΦE ⟨hl,Fr,F,own,σ,Ψ,ΨE,g,⟨n,k,h0,h1,hk,hn,q⟩,cal⟩
 obtain ⟨t,u,rfl⟩:=ae6 hl
 obtain ⟨t',e1,d,rfl,ho⟩:=g.cell 0 _ h0
 simp at e1
 subst e1
 obtain ⟨u',e2,r⟩:=g.cell 1 _ h1
 simp at e2
 subst e2
 have r : Rp F u (.int k):=r
 cases r
 refine ⟨d,k,n,rfl,g.owG 0 _ _ (by rw [ho]; exact bL),hk,hn,fun r h2 h3 => ?_⟩
 obtain ⟨own',g',x'⟩:=g.mut (o':=.drw (n + 1)) (c:=.ab (drw (n + 1))) ho ⟨.ref d,rfl,d,rfl,rfl⟩
 exact cal.ok _ _ _ _ _ _ _ (q r h2 h3) x' (g'.less afo) (show bu F aB (.int r) (.fr (.int r)) from .int r) .nil
def ye (a : Addr) : SV:=fun i => match i with
 | 0 => some (.ab (scr a))
 | 1 => some (.ab (drw 0))
 | _ => none
def mF : VEnds:=⟨fun _ => False,fun r σ => rd σ r = some (.bl true),fun _ => False,fun _ => False⟩
def ir : aI:=fun ts G Φ _ => ∃ a,ts = [.ref a] /\ (∀ d n,G d ≠ some (.drw n)) /\ Φ (.bl true) G
section
variable {P : Program} {w : World} {K : Fr0} {mg : Str -> Option Value} {base : Heap} {x : Str} {k : Nat} {st : Stmt} {N ps : List Str} {f : Addr} {fd : FuncData}
end
theorem a8 {a b : VS} {L : VEnds} {σ : SV} {M : SV -> Prop} (k : ∀ σ',M σ' -> b L σ') (h : ∀ R : SV -> Prop,(∀ σ',M σ' -> R σ') -> a ⟨R,L.rt,L.bk,L.ct⟩ σ) : nJ a b L σ:=h _ k
theorem fo {a b : VS} {L : VEnds} {σ σ1 : SV} (h : ∀ R : SV -> Prop,R σ1 -> a ⟨R,L.rt,L.bk,L.ct⟩ σ) (k : b L σ1) : nJ a b L σ:=h _ k
theorem cL {a b : VS} {L : VEnds} {σ : SV} : nJ a b L σ = a ⟨b L,L.rt,L.bk,L.ct⟩ σ:=rfl
theorem dP {fv : PV -> SV -> Option SV} {b : VS} {L : VEnds} (I : List PV -> SV -> Prop) (h0 : ∀ σ,I [] σ -> L.nx σ)
 (h1 : ∀ p r σ,I (p :: r) σ -> ∃ σ',fv p σ = some σ' /\ ∀ R : SV -> Prop,(∀ σ1,I r σ1 -> R σ1) -> b ⟨R,L.rt,L.nx,R⟩ σ') : ∀ items σ,I items σ -> gE L fv b items σ
 | [],σ,i => h0 σ i
 | p :: r,σ,i => by
  obtain ⟨σ',e,h⟩:=h1 p r σ i
  simp only [gE,e]
  exact h _ fun σ1 i1 => dP I h0 h1 r σ1 i1
theorem kW {fv : PV -> SV -> Option SV} {us : List Nat} {tt : VT} {te : VE} {Fin : List PV -> SV -> Prop} (I : List PV -> List PV -> SV -> Prop) (h0 : ∀ acc σ,I [] acc σ -> Fin acc σ)
 (h1 : ∀ p r acc σ,I (p :: r) acc σ -> ∃ σ',fv p (ay σ us) = some σ' /\ ∀ R : List PV -> SV -> Prop,(∀ acc σ1,I r acc (ay σ1 us) -> R acc σ1) -> tt σ' fun b σ1 => if b = true then te σ1 fun y σ2 => (match tk σ2 y with
        | some (q,σ3) => acc.length < sizeLine /\ R (acc ++ [q]) σ3
        | none => False) else R acc σ1) : ∀ items acc σ,I items acc σ -> fY fv us tt te Fin items acc σ
 | [],acc,σ,i => h0 acc σ i
 | p :: r,acc,σ,i => by
  obtain ⟨σ',e,h⟩:=h1 p r acc σ i
  simp only [fY,e]
  exact h (fun acc σ1 => fY fv us tt te Fin r acc (ay σ1 us)) fun acc σ1 i1 => kW I h0 h1 r acc (ay σ1 us) i1
theorem vm {σ τ : SV} {us : List Nat} (h : ∀ i,i ∉ us -> τ i = σ i) : ay τ us = ay σ us:=by
 funext i
 by_cases z : i ∈ us
 . rw [oL z,oL z]
 . rw [lU z,lU z,h i z]
theorem iw {fv : PV -> SV -> Option SV} {us : List Nat} {tt : VT} {te : VE} {Fin : List PV -> SV -> Prop} {σ : SV} (p : PV -> Bool) (g : PV -> PV) {items : List PV} (hl : items.length <= sizeLine)
 (h : ∀ x ∈ items,∃ σ',fv x (ay σ us) = some σ' /\ ∀ (A : SV -> Prop) (B : PV -> SV -> Prop),(p x = false -> ∀ σ1,(∀ i,i ∉ us -> σ1 i = σ i) -> A σ1) -> (p x = true -> ∀ σ1,(∀ i,i ∉ us -> σ1 i = σ i) -> B (g x) σ1) ->
     tt σ' fun b σ1 => if b = true then te σ1 fun y σ2 => (match tk σ2 y with
      | some (q,σ3) => B q σ3
      | none => False) else A σ1)
    (k : Fin ((items.filter p).map g) (ay σ us)) : fY fv us tt te Fin items [] (ay σ us):=by
 refine kW (I:=fun r acc τ => τ = ay σ us /\ ∃ q,items = q ++ r /\ acc = (q.filter p).map g) (fun acc τ ⟨e,q,h1,h2⟩ => ?_) (fun x r acc τ ⟨e,q,h1,h2⟩ => ?_) items [] _ ⟨rfl,[],rfl,rfl⟩
 . subst e
   rw [vm (τ:=ay σ us) (σ:=σ) fun i hi => lU hi]
   obtain ⟨σ',e1,h3⟩:=h x (by rw [h1]; simp)
   refine ⟨σ',e1,fun R hR => ?_⟩
   have hlen : acc.length < sizeLine:=by
    rw [h2,List.length_map]
    have:=List.length_filter_le p q
    rw [h1,List.length_append,List.length_cons] at hl
    omega
   exact h3 (fun σ1 => R acc σ1) (fun q σ3 => acc.length < sizeLine /\ R (acc ++ [q]) σ3) (fun hp σ1 hs => hR _ _ ⟨vm hs,q ++ [x],by rw [h1]; simp,by rw [h2]; simp [hp]⟩)
    (fun hp σ1 hs => ⟨hlen,hR _ _ ⟨vm hs,q ++ [x],by rw [h1]; simp,by rw [h2]; simp [hp]⟩⟩)
 . subst e h2
   rw [List.append_nil] at h1
   subst h1
   exact k
theorem uR {σ : SV} {j : Nat} {c : Option Cell} : ∀ i,i ∉ [j] -> ac (ac σ j none) j c i = σ i:=fun i hi => by
 have : i ≠ j:=fun z => hi (by rw [z]; exact List.mem_cons_self)
 simp [ac,this]
def cM : PV -> Bool:=fun p => bh p p
end Vl
noncomputable section
namespace Dv
open PySem PySem.Spec PyProof.Rows L2
variable [Dv.Wld]
structure FnG (P : Program) (w : World) (K : Fr0) (mg : Str -> Option Value) (base : Heap) (CX : CXT) (k : Nat) (f : Addr) (fd : FuncData) (ps : List Str) (sp : Sp) : Prop where
 len : ∀ vs H Q E,sp vs H Q E -> vs.length = ps.length
 run : ∀ (A : Around) (outer : List PySem.Env) (sh : Shared) (H : Hp) (args : Args) (us : List Value) (vs : List V) (Q : VK) (E : XK),Room k A -> A.guards = some [] -> Env0 P w K mg base A outer sh H -> BindsTo sh fd args (ps.zip us) ->
  Vals vs us -> sp vs H Q E -> codeAny (model P w) A (.call (.ref f) args) (CR CX outer P w H sh Q E) sh
section
variable {P : Program} {w : World} {K : Fr0} {mg : Str -> Option Value} {base : Heap} {CX : CXT} {j k : Nat} {f : Addr} {fd : FuncData} {ps N : List Str} {sp sp' : Sp}
theorem FnG.mono (F : FnG P w K mg base CX j f fd ps sp) (h : j <= k) : FnG P w K mg base CX k f fd ps sp:=⟨F.len,fun A outer sh H args us vs Q E hr => F.run A outer sh H args us vs Q E (hr.mono h)⟩
theorem FnG.imp (F : FnG P w K mg base CX k f fd ps sp) (h : ∀ vs H Q E,sp' vs H Q E -> sp vs H Q E) : FnG P w K mg base CX k f fd ps sp' :=
 ⟨fun vs H Q E q => F.len vs H Q E (h _ _ _ _ q),fun A outer sh H args us vs Q E a b c d e q => F.run A outer sh H args us vs Q E a b c d e (h _ _ _ _ q)⟩
theorem FnG.of (F : FnOk P w K mg base CX k f fd ps sp) : FnG P w K mg base CX k f fd ps sp:=⟨F.len,fun A outer sh H args us vs Q E a _ c d e q => F.run A outer sh H args us vs Q E a c d e q⟩
theorem aaV {name qual : Str} {params : Arguments} {body : List Stmt} {scope : Scope} {dV kV doc pm cdv ct oc : Value} {an od : Option Addr} {osl : Array (Option Value)}
 (lk : K.lookup f = some ⟨oc,od,.func (PySem.W.fnOf name qual params body scope dV kV doc pm an cdv ct),osl⟩) (hcd : PySem.W.codeIn K cdv qual = true) (sc : FnScope N ps scope) (len : ∀ vs H Q E,sp vs H Q E -> vs.length = ps.length)
 (hb : ∀ (A : Around) (outer : List PySem.Env) (sh : Shared) (H : Hp) (vs : List V) (Q : VK) (E : XK),Room k (A.deeper (envOfC qual scope sh.heap.objs.size f cdv)) -> A.guards = some [] -> sp vs H Q E ->
     ∃ t,PSs (cxOf CX P w K mg base N qual scope f cdv A outer sh H E) body t /\ t { nx:=fun _ H' => Q .non H',rt:=Q } (L2.start N vs) H) :
    FnG P w K mg base CX (k + 1) f (PySem.W.fnOf name qual params body scope dV kV doc pm an cdv ct) ps sp:=by
 refine ⟨len,fun A outer sh H args us vs Q E hr hg ev hbind rv hsp => ?_⟩
 have hlen:=len _ _ _ _ hsp
 have kin : K.In sh.heap:=ev.mod.kin.keeps fun b o z => (ev.bs b o z).1
 have nolim : sh.heap.NoLimit:=ev.mod.nolimit.keeps fun b o z => (ev.bs b o z).1
 have kinds : ∀ y ∈ ps.zip us,scope.names.lookup y.1 = some .local \/ (scope.names.lookup y.1 = some .cell /\ ((cellsFrom (sh.heap.objs.size + 1) scope.names []).lookup y.1).isSome = true):=by
  rintro ⟨nm,v⟩ hy
  rcases sc.par nm (List.of_mem_zip hy).1 with z | z
  . exact .inl z
  . exact .inr ⟨z,PySem.W.cellsFrom_some _ _ _ (.inl z)⟩
 refine codeAny_call_function hr.depth (kin _ _ lk) rfl sc.co sc.gen rfl
  (PySem.W.codeRec_of kin hcd) (hbind _ _ _ _ (wpAny_newFunctionEnv_cells sc.kind kinds fun env he sh1 x => ?_))
 cases he
 refine ⟨nolim.keeps x.toInCall.keep,codeAny_func ?_⟩
 obtain ⟨t,ht,hq⟩:=hb A outer sh H vs Q E (hr.deeper _) hg hsp
 have J : Inv (cxOf CX P w K mg base N qual scope f cdv A outer sh H E) [] (L2.start N vs) H sh1:=inv_start sc hr.hd ev hlen rv x
 refine wpAny_mono (ht.run [] sh1 (L2.start N vs) H _ J hq) (fun fl sh' q => ?_) fun e sh' q => q
 cases fl with
 | ret u =>
  obtain ⟨v,σ',H',J',r',q⟩:=q
  exact ⟨v,H',J'.os,J'.bare,J'.base,J'.hok,r',q⟩
 | next =>
  obtain ⟨σ',H',J',q⟩:=q
  exact ⟨V.non,H',J'.os,J'.bare,J'.base,J'.hok,rfl,q⟩
 | brk => exact q.choose_spec.choose_spec.2.elim
 | cont => exact q.choose_spec.choose_spec.2.elim
end
section
variable {X : Cx} {CX : CXT} {k : Nat} {f : Addr} {fd : FuncData} {ps : List Str} {sp : Sp} {E : XK} {dvs : List V} {ds : List Value} {x : Str} {p pos : Pos} {e : Expr} {es : List Expr} {t : TA}
end
theorem aaZ {P : Program} {w : World} {K : Fr0} {mg mb : Str -> Option Value} {CX : CXT} {k : Nat} {fa a : Addr} {fd : FuncData} {x : Str} {sp : Sp} {sh : Shared} {vs : List Value} {ns : List Int}
 (kin : K.In sh.heap) (hns : sh.heap.Ns mainGlobals mg) (hbn : sh.heap.Ns builtinsNs mb) (hbb : ∀ y : Str,y ≠ "__name__" -> mb y = bootBuiltins y) (nolim : sh.heap.NoLimit) (hgen : sh.gens = #[])
 (hsc : sh.heap.get? a = some { cls:=.type "list",data:=.seq vs.toArray }) (hints : IntsAre vs ns) (hsize : ns.length <= sizeLine) (room : Room k callerA)
 (F : ∀ base : Heap,K.In base -> base.Ns mainGlobals mg -> FnG P w K mg base CX k fa fd [x] sp) (hbind : ∀ (s : Shared) (u : Value),BindsTo s fd ⟨[u],[]⟩ [(x,u)])
 (hsp : ∀ H : Hp,Only H -> SqL K H a (ns.map V.int) -> sp [.ref a] H (fun v _ => v = .bl true) fun _ _ _ => False) (hCX : ∀ H e s',CX [] H sh (fun _ _ _ => False) e s' -> False) :
    codeAny (model P w) callerA (.call (.ref fa) ⟨[.ref a],[]⟩) (fun r s' => r = .ok (.ret (.bool true)) /\ OldK sh.heap s'.heap /\ s'.os = sh.os /\ AllBare s'.gens) sh:=by
 have key : ∀ H : Hp,Only H -> SqL K H a (ns.map V.int) -> HOk P w H sh.heap -> (∀ b,H b ≠ none -> b = a) -> (H a ≠ none -> K.lookup a = none) ->
     codeAny (model P w) callerA (.call (.ref fa) ⟨[.ref a],[]⟩) (fun r s' => r = .ok (.ret (.bool true)) /\ OldK sh.heap s'.heap /\ s'.os = sh.os /\ AllBare s'.gens) sh:=by
  intro H only sq hok onlyA notK
  have hid : ∀ {b : Addr} {o : Obj},sh.heap.get? b = some o -> H b = none -> (hidT sh.heap H).get? b = some o:=fun z n => hidT_get z n
  have out : ∀ {b : Addr} {m : Str -> Option Value},sh.heap.Ns b m -> (hidT sh.heap H).Ns b m:=by
   rintro b m ⟨o,es,ep,e,d,r⟩
   refine ⟨o,es,ep,hid e ?_,d,r⟩
   cases q : H b with
   | none => rfl
   | some u =>
    have z : b = a:=onlyA b (by rw [q]; simp)
    rw [z,hsc] at e
    cases e
    have d' : Data.seq vs.toArray _ = Data.dict es ep:=d
    cases d'
  have kin2 : K.In (hidT sh.heap H):=by
   intro b o e
   refine hid (kin b o e) ?_
   cases q : H b with
   | none => rfl
   | some u =>
    have z : b = a:=onlyA b (by rw [q]; simp)
    rw [z,notK (by rw [<- z,q]; simp)] at e
    cases e
  have md : Mod K mg (hidT sh.heap H):=⟨kin2,out hns,⟨mb,out hbn,hbb⟩,nolim.elim fun mc h => ⟨mc,out h.1,h.2⟩⟩
  have ev : Env0 P w K mg (hidT sh.heap H) callerA [] sh H:=⟨rfl,md,fun b o z => of_hidT z,Nat.le_of_eq (hidT_size _ _),trivial,(by intro b hb; cases hb),hok,.of_eq hgen⟩
  refine codeAny_mono ((F _ kin2 (out hns)).run callerA [] sh H ⟨[.ref a],[]⟩ [.ref a] [.ref a] _ _ room rfl ev (hbind sh (.ref a)) (.cons rfl .nil) (hsp H only sq)) fun res s' q => ?_
  match res,q with
  | .error e,q => exact (hCX H e s' q).elim
  | .ok .next,q => exact q.elim
  | .ok .brk,q => exact q.elim
  | .ok .cont,q => exact q.elim
  | .ok (.ret u),q =>
   obtain ⟨v,H',os,bare,un,hok',rr,qv⟩:=q
   obtain rfl : v = .bl true:=qv
   obtain rfl : u = Value.bool true:=rr
   refine ⟨rfl,OldK.of_keep fun b o e => ?_,os,bare⟩
   cases z : H b with
   | none => exact un.keep b o e z (by intro y; cases y) (by simp)
   | some u =>
    rcases only b with y | ⟨ob,xs,y⟩
    . rw [z] at y; cases y
    . have e1:=(hok b _ y).1
      rw [e] at e1
      cases e1
      exact (hok' b _ (un.frzs b _ _ y)).1
 cases hk : K.lookup a with
 | some o =>
  have e:=kin a o hk
  rw [hsc] at e
  cases e
  exact key (fun _ => none) (fun _ => .inl rfl) (.inr ⟨_,vs.toArray,_,hk,rfl,rfl,rfl,by rw [List.size_toArray,hints.length]; exact hsize,by simpa using vals_ints hints⟩)
   (by intro b u z; cases z) (fun b z => absurd rfl z) fun z => absurd rfl z
 | none =>
  have at_ : ∀ b,(fun b => if b = a then some (HO.frz { cls:=.type "list",data:=.seq vs.toArray } (.lst (ns.map V.int))) else none) b ≠ none -> b = a:=fun b z => by
   by_cases y : b = a
   . exact y
   . exact absurd (if_neg y) z
  refine key (fun b => if b = a then some (.frz { cls:=.type "list",data:=.seq vs.toArray } (.lst (ns.map V.int))) else none) (fun b => ?_) (.inl (.inr ⟨{ cls:=.type "list",data:=.seq vs.toArray },if_pos rfl⟩)) (fun b u z => ?_) at_ fun _ => hk
  . by_cases y : b = a
    . exact .inr ⟨_,_,if_pos y⟩
    . exact .inl (if_neg y)
  . have y:=at_ b (by rw [z]; simp)
    have z':=(if_pos y).symm.trans z
    cases z'
    rw [y]
    exact ⟨hsc,by rw [List.length_map]; exact hsize,vs,_,vals_ints hints,hsc⟩
theorem aau {l : PySem.W.OpenLaw} {n k : Nat} {q : Program} {loose : List Str} {XP : (Str -> Option Value) -> Heap -> Prop} {YP : World -> Heap -> Prop} {d : DefRec} {K : Params -> PySem.W.Frag} {CX : World -> CXT} {sp : World -> Sp} {x : Str}
 (hmost : l.most = some n) (hfit : n <= sizeLine) (hdf : d.params.defaults = []) (room : Room k callerA) (hY : ∀ (w : World) (h : Heap),YP w h -> (K w.params).In h)
 (F : ∀ (w : World) (mg : Str -> Option Value) (fa : Addr) (h : Heap),(K w.params).In h -> h.Ns mainGlobals mg -> mg d.name = some (.ref fa) -> ∃ fd : FuncData,(∀ (s : Shared) (u : Value),BindsTo s fd ⟨[u],[]⟩ [(x,u)]) /\
     ∀ base : Heap,(K w.params).In base -> base.Ns mainGlobals mg -> FnG l.prog w (K w.params) mg base (CX w) k fa fd [x] (sp w))
    (hsp : ∀ (w : World) (H : Hp) (a : Addr) (ns : List Int),ns.length <= n -> Only H -> SqL (K w.params) H a (ns.map V.int) -> sp w [.ref a] H (fun v _ => v = .bl true) fun _ _ _ => False)
    (hCX : ∀ (w : World) (H : Hp) (s : Shared) (e : Value) (s' : Shared),CX w [] H s (fun _ _ _ => False) e s' -> False) : PySem.W.WalkO q loose XP YP l.row.toRowW d [] (fun f vs => PySem.call f vs):=by
 refine Att.attach_call hmost hdf fun w s0 s1 mg mb fa o pm cd doc a vs ns G Y ho hd hcd hmg hobj hints hlen hgen => ?_
 obtain ⟨fd,hb,hF⟩:=F w mg fa _ (hY w _ Y) G.T.g hmg
 exact aaZ (hY w _ Y) G.T.g G.T.b G.T.builtins G.T.nolimit hgen hobj hints (Nat.le_trans hlen hfit) room hF hb
  (fun H hO hS => hsp w H a ns hlen hO hS) fun H e s' => hCX w H s1 e s'
end Dv
noncomputable section
namespace Dv
open PySem PySem.Spec PyProof.Rows L2
variable [Dv.Wld]
section
variable {P : Program} {w : World} {K : Fr0} {mg : Str -> Option Value} {base : Heap} {x qual : Str} {st : Stmt} {f : Addr} {fd : FuncData} {N ps : List Str} {j k : Nat} {sp sp' : aI} {dts : List T}
theorem okG (F : Fun K x qual st f fd) (S : FnScope N ps (defScope st)) {sp : Sp} (len : ∀ vs H Q E,sp vs H Q E -> vs.length = ps.length)
 (hbody : ∀ (cdv : Value) (A : Around) (outer : List PySem.Env) (s : Shared) (H : Hp) (vs : List V) (Q : VK) (E : XK),Room k (A.deeper (envOfC qual (defScope st) s.heap.objs.size f cdv)) -> A.guards = some [] -> sp vs H Q E ->
     ∃ t,PSs (bx P w K mg base N qual (defScope st) f cdv A outer s H E) (defBody st) t /\ t { nx:=fun _ H' => Q .non H',rt:=Q } (L2.start N vs) H) : FnG P w K mg base (L2.CX P w) (k + 1) f fd ps sp:=by
 obtain ⟨oc,od,kV,doc,pm,an,cdv,ct,osl,rfl,lk,hcd⟩:=F.ex
 exact aaV lk hcd S len fun A outer s H vs Q E hr hg hsp => hbody cdv A outer s H vs Q E hr hg hsp
end
section
variable {X : Cx} {e : Expr} {es : List Expr} {l : LA} {pos p : Pos} {k : Nat} {x : Str} {sp : aI} {dts : List T}
end
section
variable {P : Program} {w : World} {K : Fr0} {mg : Str -> Option Value} {base : Heap} {x : Str} {st : Stmt} {f : Addr} {fd : FuncData} {N ps : List Str} {k : Nat}
abbrev abd (P : Program) (w : World) (K : Fr0) (mg : Str -> Option Value) (base : Heap) (N : List Str) (x : Str) (st : Stmt) (f : Addr) (k : Nat) (sp : aI) : Prop :=
 ∀ (cdv : Value) (A : Around) (outer : List PySem.Env) (s : Shared) (H : Hp) (E : XK) (G : Gp) (Φ : QT) (ΦE : cW) (a : Addr) (ns : List Int),Room k (A.deeper (envOfC x (defScope st) s.heap.objs.size f cdv)) -> A.guards = some [] -> nY K H G ΦE E ->
     ns.length <= 63 -> (∀ H' G',HRel K [(H,G)] H' G' -> eL K H' G' a ns) -> sp [.ref a] G Φ ΦE -> ∃ l,dj [(H,G)] (bx P w K mg base N x (defScope st) f cdv A outer s H E) (defBody st) l /\ l (gj Φ) (bo N [.ref a]) G
theorem aea {sp : aI} (F : Fun K x x st f fd) (S : FnScope N ps (defScope st)) (len : ps.length = 1) (hbody : abd P w K mg base N x st f k sp) : FnG P w K mg base (L2.CX P w) (k + 1) f fd ps (eY K sp):=by
 refine okG F S (fun vs H Q E ⟨a,ns,G,Φ,ΦE,e,_⟩ => by rw [e,len]; rfl) (fun cdv A outer s H vs Q E hr hg h => ?_)
 obtain ⟨a,ns,G,Φ,ΦE,rfl,hS,hn,g,q,k1,k2⟩:=h
 obtain ⟨l,b,q2⟩:=hbody cdv A outer s H E G Φ ΦE a ns hr hg k2 hn (fun H' G' g' => hS.step (g'.hist _ (List.mem_singleton.mpr rfl))) q
 exact ⟨_,b,bo N _,G,gj Φ,qz (.cons (.ref a) .nil),g.enter,q2,sW k1⟩
end
end Dv
namespace Vl
open PySem PySem.Spec PyProof.Rows L2 Dv
variable [Dv.Wld]
section
variable {P : Program} {w : World} {K : Fr0} {mg : Str -> Option Value} {base : Heap} {x qual : Str} {st : Stmt} {N ps : List Str} {k n : Nat} {spv : SpV} {io : List Nat} {f : Addr} {fd : FuncData}
end
end Vl
noncomputable section
namespace Dv
open PySem PySem.Spec PyProof.Rows L2
variable [Dv.Wld]
section
variable {X : Cx} {e o : Expr} {es : List Expr} {la : LE} {l : LA} {pos p apos : Pos} {en : En}
end
end Dv
namespace Vl
open PySem PySem.Spec PyProof.Rows L2 Dv
variable [Dv.Wld]
def tX : List PV -> (Cell -> Prop) -> Prop
 | [.lst xs],k => ∃ ss : List Str,xs = ss.map PV.str /\ ss.length <= 1000 /\ ∀ ys,sortedS ys = true -> ys.Nodup -> (∀ y,y ∈ ys ↔ y ∈ ss) -> ys.length <= ss.length -> k (.ow (.lst (ys.map PV.str)))
 | [.tup xs],k => ∃ ss : List Str,xs = ss.map PV.str /\ ss.length <= 1000 /\ ∀ ys,sortedS ys = true -> ys.Nodup -> (∀ y,y ∈ ys ↔ y ∈ ss) -> ys.length <= ss.length -> k (.ow (.lst (ys.map PV.str)))
 | _,_ => False
theorem ae2 : fU o5 tX:=fun F G ts ps Ψ Φ s r hh k => by
 match ps,hh with
 | [.lst xs],hh =>
  obtain ⟨t,rfl,a,us,rfl,h1,r'⟩:=r.one
  obtain ⟨ss,rfl,hl,hh⟩:=hh
  have e:=r'.strs
  subst e
  simp only [o5,h1]
  exact ⟨ss,rfl,hl,fun ys h2 h3 h4 h5 p hp => k _ _ _ _ (hh ys h2 h3 h4 h5) (Fresh.new hp) ⟨p,_,rfl,rfl,kO ys⟩⟩
 | [.tup xs],hh =>
  obtain ⟨t,rfl,us,rfl,r'⟩:=r.one
  obtain ⟨ss,rfl,hl,hh⟩:=hh
  have e:=r'.strs
  subst e
  exact ⟨ss,rfl,hl,fun ys h2 h3 h4 h5 p hp => k _ _ _ _ (hh ys h2 h3 h4 h5) (Fresh.new hp) ⟨p,_,rfl,rfl,kO ys⟩⟩
end Vl
noncomputable section
namespace Dv
open PySem PySem.Spec PyProof.Rows L2
variable [Dv.Wld]
def lS {α : Type} (ix : List Nat) (ws : List α) : List α:=ix.filterMap (ws[·]?)
section
variable {P : Program} {w : World} {K : Fr0} {mg : Str -> Option Value} {base : Heap} {x : Str} {st : Stmt} {N ps ks : List Str} {k : Nat} {sp : aI} {ix : List Nat}
end
section
variable {X : Cx} {l lk : LA} {pos p : Pos} {k : Nat} {x : Str} {sp : aI} {kws : List Keyword} {en : En} {ix : List Nat} {ks : List Str}
end
end Dv
namespace Vl
open PySem PySem.Spec PyProof.Rows L2 Dv
variable [Dv.Wld]
section
variable {en : En} {X : Cx} {io : Io} {ioc ix : List Nat} {e : Expr} {kws : List Keyword} {vk : VA} {spv : SpV} {n m : Nat}
theorem cu.perm {F : Gp} {S : S2} {ts : List T} {rs : List RV} (h : cu F S ts rs) : cu F S (lS ix ts) (lS ix rs):=by
 have at' : ∀ {ts : List T} {rs : List RV},cu F S ts rs -> ∀ i : Nat,(ts[i]? = none /\ rs[i]? = none) \/ ∃ t r,ts[i]? = some t /\ rs[i]? = some r /\ gM F S t r:=by
  intro ts
  induction ts with
  | nil =>
   intro rs h i
   cases rs with
   | nil => exact .inl ⟨rfl,rfl⟩
   | cons _ _ => exact h.elim
  | cons t ts ih =>
   intro rs h i
   cases rs with
   | nil => exact h.elim
   | cons r rs =>
    cases i with
    | zero => exact .inr ⟨t,r,rfl,rfl,h.1⟩
    | succ i => exact ih h.2 i
 induction ix with
 | nil => exact trivial
 | cons i ix ih =>
  unfold lS at ih ⊢
  rw [List.filterMap_cons,List.filterMap_cons]
  rcases at' h i with ⟨e1,e2⟩ | ⟨t,r,e1,e2,hr⟩
  . rw [e1,e2]; exact ih
  . rw [e1,e2]; exact ⟨hr,ih⟩
end
end Vl
noncomputable section
namespace Vl
open PySem PySem.Spec PyProof.Rows L2 Dv
variable [Dv.Wld]
end Vl
noncomputable section
namespace Dv
open PySem PySem.Spec PyProof.Rows L2
variable [Dv.Wld]
theorem DrawR.kept {H H' : Hp} {d lg it : Addr} {n : Nat} {l t : Int} {ls is : List Int} (h : DrawR H d n lg it l t ls is) (k : ∀ b o,H b = some o -> H' b = some o) : DrawR H' d n lg it l t ls is :=
 ⟨k _ _ h.hd,k _ _ h.hlg,k _ _ h.hit,h.ne,h.lpos,h.ipos,h.ilen,h.llen,h.l0,h.t0,h.tn⟩
theorem HRel.kept {K : Fr0} {en : En} {H H' : Hp} {G : Gp} (g : HRel K en H G) (k : ∀ b o,H b = some o -> H' b = some o) : HRel K en H' G /\ Step H G H' G /\ a9 K H H':=by
 have hid : ∀ d n b,G d = some (.drw n) -> Hid H' d b -> Hid H d b:=fun d n b e h => by
  obtain ⟨lg,it,l,t,ls,is,r⟩:=g.obj d _ e
  obtain ⟨lg',it',l',t',e',hb⟩:=h
  rw [k _ _ r.hd] at e'
  exact ⟨lg',it',l',t',by rw [r.hd]; exact e',hb⟩
 have st : a9 K H H':=fun p o h _ _ => k _ _ h
 have stp : Step H G H' G:=⟨fun b u e _ no => ⟨k b u e,fun z => no (z.elim .inl fun ⟨d,n,e',h⟩ => .inr ⟨d,n,e',hid d n b e' h⟩)⟩,fun b u e y => ⟨u,k b u e,y⟩⟩
 refine ⟨⟨fun b u e => ?_,fun d n b e h => g.sep d n b e (hid d n b e h),g.one,fun e he => (g.hist e he).trans stp,g.tabs.step fun b o e _ => k b o e⟩,stp,st⟩
 have ob:=g.obj b u e
 cases u with
 | lst ts => obtain ⟨vs,h,r⟩:=ob; exact ⟨vs,k _ _ h,r.stay st⟩
 | dic ts => obtain ⟨vs,h,r⟩:=ob; exact ⟨vs,k _ _ h,r.stay st⟩
 | fdic ob' vs ts => obtain ⟨h,r⟩:=ob; exact ⟨k _ _ h,r.stay st⟩
 | ins C ts => obtain ⟨dx,vs,h,r⟩:=ob; exact ⟨dx,vs,k _ _ h,r.stay st⟩
 | drw n => obtain ⟨lg,it,l,t,ls,is,h⟩:=ob; exact ⟨lg,it,l,t,ls,is,h.kept k⟩
 | dicN ts => obtain ⟨raw,h,r⟩:=ob; exact ⟨raw,k _ _ h,r.stay st⟩
 | fdicN ob' raw ts => obtain ⟨h,r⟩:=ob; exact ⟨k _ _ h,r.stay st⟩
def zy : V -> Hp -> VK -> Prop:=fun x H Q => ∃ (d : Addr) (kvs : List (Key × V)),x = .ref d /\ Rd H d (.dK kvs) /\
 ∀ (H' : Hp) (p : Addr) (ts : List Addr),(∀ b o,H b = some o -> H' b = some o) -> H p = none -> p ∉ ts -> H' p = some (.lst (ts.map V.ref)) -> Paired (fun (t : Addr) (q : Key × V) => H' t = some (.tup [L2.kV q.1,q.2])) ts kvs -> Q (.ref p) H'
theorem aaX {X : Cx} {e : Expr} {te : TE} {p apos cpos pos : Pos} (hc : X.calm = true) (he : PE X e te) (hg : Gl X "list") (hm : X.mg "list" = none) (hbase : attributeBase e "items" X.env (eval e X.env) = eval e X.env:=by rfl) (hline : (apos.endLine == cpos.line) = true:=by rfl)
 (hs : starEach [.Call (.Attribute e "items" apos) [] [] cpos] X.env = (false,eval (.Call (.Attribute e "items" apos) [] [] cpos) X.env) :: starEach [] X.env:=by rfl) :
    PE X (.Call (.Name "list" p) [.Call (.Attribute e "items" apos) [] [] cpos] [] pos) (fun σ H Q => te σ H fun x H1 => zy x H1 Q):=by
 refine ⟨fun pins s σ H Q I h => wpAny_Call_Name_kw (ld_blt I hg hm rfl (PyProof.Rows.callWith_type1 ?_ hs rfl))⟩
 have hrun:=he.run pins s σ H _ I h
 rw [hs]
 refine Calls.spliced_cons (wpAny_Call_method (T:="dict") (id:="dict.items") hbase rfl hline PySem.F.plainAttrs_dict PySem.F.slot_dict_items PySem.F.type_dict_items (thn hrun fun u z ⟨x,G,J,rx,d,kvs,ex,hd,q⟩ => ?_))
 rw [ex] at rx
 obtain rfl : u = Value.ref d:=rx
 have ⟨n1,n2,vs,kv,dd⟩:=dk_rd J.hok hd
 have ⟨ep,hat⟩:=dd.dictAt
 have n3:=Paired.length kv
 have J2 : Inv X pins σ G { z with heap:=z.heap.push { cls:=.type "dict_items",data:=.fields #[.ref d] } }:=J.kept (t':=z.toks) fun _ _ y => Heap.get?_push_of_some _ y
 refine ⟨dd.typeIs,dd.mapOf.noDict,method_meetsIn PySem.F.slot_dict_items PySem.F.entry_dict_items rfl (PySem.evalArgs_none ⟨rfl,dd.typeIs,PySem.F.args_dict_items_1 _,_,meets_dict_items (mixKind X.prog X.w) d n2,⟨vs,dd⟩,Calls.spliced_nil ?_⟩)⟩
 refine PySem.W.kdx_call (kvs:=vs) (knd:=mixKind X.prog X.w) (ep:=ep) (J.ok.hd hc) ⟨_,Heap.get?_push_size _ rfl,rfl,rfl⟩ (hat.push _) (by omega) fun h' tk acc c as a1 a2 a3 a4 a5 => ?_
 have ⟨H',b1,b2,b3,b4,b5,b6,J3⟩:=LiI.items_laid (tk:=tk) J2 n1 kv a1 a2 a3 a4 a5
 exact ⟨.ref _,H',J3,rfl,q H' _ as b1 b2 b4 b5 b6⟩
def jI (kv : T × T) : T:=.tup [kv.1,kv.2]
def yU (la : LE) : LE:=fun S G Φ => la S G fun t G1 => match t with
 | .ref a => (match G1 a with
  | some (.dic kvs) => ∀ p,G1 p = none -> Φ (.ref p) (gup G1 p (.lst (kvs.map jI)))
  | some (.fdic _ _ kvs) => ∀ p,G1 p = none -> Φ (.ref p) (gup G1 p (.lst (kvs.map jI)))
  | _ => False)
 | _ => False
section
variable {X : Cx} {e : Expr} {la : LE} {p apos cpos pos : Pos} {en : En}
theorem RelD.pairs {K : Fr0} {H : Hp} : ∀ {kvs : List (Key × V)} {ts : List (T × T)} {as : List Addr},RelD K H kvs ts -> Paired (fun (t : Addr) (q : Key × V) => H t = some (.tup [L2.kV q.1,q.2])) as kvs -> RelL K H (as.map V.ref) (ts.map jI)
 | _,_,_,.nil,.nil => .nil
 | _,_,_,.cons (k:=k) r rs,.cons h hs => .cons (.tup (SqT.of h) (.cons (by cases k <;> constructor) (.cons r .nil))) (RelD.pairs rs hs)
theorem aeF (hm : X.mg "list" = none) (he : E en X e la) (hg : Gl X "list":=by rfl) (hc : X.calm = true:=by rfl) (hbase : attributeBase e "items" X.env (eval e X.env) = eval e X.env:=by rfl) (hline : (apos.endLine == cpos.line) = true:=by rfl)
 (hs : starEach [.Call (.Attribute e "items" apos) [] [] cpos] X.env = (false,eval (.Call (.Attribute e "items" apos) [] [] cpos) X.env) :: starEach [] X.env:=by rfl) :
    E en X (.Call (.Name "list" p) [.Call (.Attribute e "items" apos) [] [] cpos] [] pos) (yU la):=by
 refine PE.weak (aaX hc he hg hm hbase hline hs) fun σ H Q ⟨S,G,Φ,s,g,q,k⟩ => ?_
 refine ⟨S,G,_,s,g,q,fun t G1 v H1 q1 r1 g1 s1 => ?_⟩
 have fin : ∀ {a : Addr} {vs : List (Key × V)} {kvs : List (T × T)},Rd H1 a (.dK vs) -> RelD X.K H1 vs kvs -> (∀ p,G1 p = none -> Φ (.ref p) (gup G1 p (.lst (kvs.map jI)))) -> zy (.ref a) H1 Q:=by
  intro a vs kvs h1 rd q1
  refine ⟨a,vs,rfl,h1,fun H' p ts hk hp hpts hl hpair => ?_⟩
  let H2 : Hp:=fun b => if b = p then none else H' b
  have h2p : H2 p = none:=if_pos rfl
  have h2n : ∀ b,b ≠ p -> H2 b = H' b:=fun b h => if_neg h
  have k2 : ∀ b o,H1 b = some o -> H2 b = some o:=fun b o e => by
   rw [h2n b fun z => by rw [z,hp] at e; cases e]
   exact hk b o e
  obtain ⟨g2,s2,st2⟩:=g1.kept k2
  have pr : ∀ {as : List Addr} {kv : List (Key × V)},p ∉ as -> Paired (fun (t : Addr) (q : Key × V) => H' t = some (.tup [L2.kV q.1,q.2])) as kv -> Paired (fun (t : Addr) (q : Key × V) => H2 t = some (.tup [L2.kV q.1,q.2])) as kv:=by
   intro as
   induction as with
   | nil => intro kv _ h; cases h; exact .nil
   | cons a as ih =>
    intro kv hn h
    cases h with
    | cons h1 h2 => exact .cons (by rw [h2n _ fun z => hn (by rw [z]; exact List.mem_cons_self)]; exact h1) (ih (fun z => hn (List.mem_cons_of_mem _ z)) h2)
  obtain ⟨g3,s3⟩:=dJ g2 h2p (RelD.pairs (rd.stay st2) (pr hpts hpair))
  have e2 : L2.upd H2 p (.lst (ts.map V.ref)) = H':=by
   funext b
   by_cases z : b = p
   . rw [z,upd_same,hl]
   . rw [upd_ne z,h2n b z]
  rw [e2] at g3 s3
  exact k _ _ _ _ (q1 p (g1.fresh hp)) (.ref p) g3 ((s1.trans s2).trans s3)
 split at q1
 . rename_i a
   split at q1
   . rename_i kvs e1
     obtain ⟨vs,h1,rd⟩:=g1.obj _ _ e1
     cases r1
     exact fin (.inl h1) rd q1
   . rename_i ob vs kvs e1
     obtain ⟨h1,rd⟩:=g1.obj _ _ e1
     cases r1
     exact fin (.inr ⟨_,h1⟩) rd q1
   . exact q1.elim
 . exact q1.elim
end
end Dv
namespace Vl
open PySem PySem.Spec PyProof.Rows L2 Dv
variable [Dv.Wld]
def i7 (kv : Key × PV) : PV:=.tup [kP kv.1,kv.2]
def vA (va : VE) : VE:=fun σ Ψ => va σ fun r σ1 => match rd σ1 r with
 | some (.dic kvs) => Ψ (.v (.ow (.lst (kvs.map i7)))) σ1
 | _ => False
theorem RpD.pairs {F : Gp} : ∀ {ts : List (T × T)} {ps : List (Key × PV)},RpD F ts ps -> RpL F (ts.map jI) (ps.map i7)
 | _,_,.nil => .nil
 | _,_,.cons h r => .cons (.tup (.cons (xJ _) (.cons h .nil))) (RpD.pairs r)
theorem abW {X : Cx} {en : En} {io : Io} {e e0 : Expr} {va : VE} (he : ∀ la,E en X e0 la -> E en X e (yU la)) (ha : Ev en X io e0 va) : Ev en X io e (vA va):=bS (he _ ha) fun S G Φ ⟨w,F,own,σ,Ψ,g,q,k⟩ => by
 refine ⟨w,F,own,σ,_,g,q,fun r σ1 F1 own1 G1 t q1 x1 g1 r1 => ?_⟩
 split at q1
 . rename_i kvs e1
   obtain ⟨a,us,rfl,h1,r'⟩:=g1.rdV r1 e1
   rcases iX h1 with h1 | ⟨ob,raw,h1⟩
   all_goals
    simp only [h1]
    intro p hp
    obtain ⟨g4,m4⟩:=g1.fresh (Fresh.new (o:=.lst (us.map jI)) hp)
    exact k _ _ _ _ _ _ q1 x1 g4 ⟨_,⟨p,_,rfl,rfl,RpD.pairs r'⟩,m4⟩
 . exact q1.elim
end Vl
noncomputable section
namespace Dv
open PySem PySem.Spec PyProof.Rows L2
variable [Dv.Wld]
section
variable {X : Cx} {e o : Expr} {la : LE} {l : LA} {apos cpos : Pos} {en : En}
end
end Dv
namespace Vl
open PySem PySem.Spec PyProof.Rows L2 Dv
variable [Dv.Wld]
end Vl
noncomputable section
namespace Dv
open PySem PySem.Spec PyProof.Rows L2
variable [Dv.Wld]
mutual
inductive Dq (G : Gp) : T -> PyData -> Prop
 | non : Dq G .non .none
 | bl (b : Bool) : Dq G (.bl b) (.bool b)
 | int (i : Int) : Dq G (.int i) (.int i)
 | str (x : Str) : Dq G (.str x) (.str x)
 | tup {ts : List T} {ds : List PyData} : DqL G ts ds -> Dq G (.tup ts) (.tuple ds)
 | lst {a : Addr} {ts : List T} {ds : List PyData} : G a = some (.lst ts) -> DqL G ts ds -> Dq G (.ref a) (.list ds)
 | dic {a : Addr} {kvs : List (T × T)} {ds : List (PyData × PyData)} : (G a = some (.dic kvs) \/ ∃ ob raw,G a = some (.fdic ob raw kvs)) -> DqL G (kvs.map (·.1)) (ds.map (·.1)) -> DqL G (kvs.map (·.2)) (ds.map (·.2)) -> Dq G (.ref a) (.dict ds)
inductive DqL (G : Gp) : List T -> List PyData -> Prop
 | nil : DqL G [] []
 | cons {t : T} {d : PyData} {ts : List T} {ds : List PyData} : Dq G t d -> DqL G ts ds -> DqL G (t :: ts) (d :: ds)
end
section
variable {X : Cx} {pins : List (Addr × Obj)} {σ : L2.St} {H : Hp} {s : Shared} {en : En} {G : Gp}
theorem RelD.split {K : Fr0} {H : Hp} : ∀ {vs : List (Key × V)} {ts : List (T × T)},RelD K H vs ts -> RelL K H (vs.map fun q => L2.kV q.1) (ts.map (·.1)) /\ RelL K H (vs.map (·.2)) (ts.map (·.2))
 | _,_,.nil => ⟨.nil,.nil⟩
 | _,_,.cons (k:=k) r rs => ⟨.cons (by cases k <;> constructor) (RelD.split rs).1,.cons r (RelD.split rs).2⟩
theorem vE {P : Program} {w : World} : ∀ {vs : List (Key × V)} {ws : List (Key × Value)} {es : List DictEntry},KV vs ws -> Pairs (mixKind P w) es ws -> Vals (vs.map fun q => L2.kV q.1) (es.map (·.key)) /\ Vals (vs.map (·.2)) (es.map (·.val))
 | _,_,_,.nil,.nil => ⟨.nil,.nil⟩
 | _, _, _, .cons h hs, .cons a b r => by
  obtain ⟨q1,q2⟩:=vE hs r
  refine ⟨.cons ?_ q1,.cons ?_ q2⟩
  . show RelV (L2.kV _) _
    rw [h.1]
    exact relV_key a
  . show RelV _ (DictEntry.val _)
    rw [b]
    exact h.2
mutual
def jl : PyData -> Bool
 | .list _ => false
 | .tuple ds => iy ds
 | .dict kvs => n7 kvs
 | _ => true
def iy : List PyData -> Bool
 | [] => true
 | d :: ds => jl d && iy ds
def n7 : List (PyData × PyData) -> Bool
 | [] => true
 | (k,v) :: r => jl k && jl v && n7 r
end
theorem yw : ∀ {kvs : List (PyData × PyData)},n7 kvs = true -> iy (kvs.map (·.1)) = true /\ iy (kvs.map (·.2)) = true
 | [],_ => ⟨rfl,rfl⟩
 | (k,v) :: r,h => by
  rw [n7,Bool.and_eq_true,Bool.and_eq_true] at h
  obtain ⟨h1,h2⟩:=yw h.2
  exact ⟨by simp [iy,h.1.1,h1],by simp [iy,h.1.2,h2]⟩
mutual
theorem Dq.reads (I : Inv X pins σ H s) (g : HRel X.K en H G) : ∀ {t : T} {d : PyData} {v : V} {u : Value},Dq G t d -> Rel X.K H v t -> RelV v u -> ∃ as,Reads s.heap u d as /\ (jl d = true -> sysModules ∉ as)
 | _,_,_,_,.non,.non,rfl => ⟨_,.none,fun _ h => by cases h⟩
 | _,_,_,_,.bl b,.bl _,rfl => ⟨_,.bool b,fun _ h => by cases h⟩
 | _,_,_,_,.int i,.int _,⟨t,rfl⟩ => ⟨_,.int i t,fun _ h => by cases h⟩
 | _,_,_,_,.str x,.str _,⟨t,rfl⟩ => ⟨_,.str x t,fun _ h => by cases h⟩
 | _,_,_,_,.tup h,.tup hs r,rfl => by
  obtain ⟨its,rv,⟨o,ho,hc,n,hd⟩,_⟩:=I.tuple hs
  obtain ⟨as,h1,h2⟩:=DqL.reads I g h r rv
  exact ⟨_,.tuple ho hc hd h1,fun z => h2 (by simpa [jl] using z)⟩
 | _,_,_,_,.lst e h,r0,r1 => by
  cases r0
  obtain rfl:=r1
  obtain ⟨vs,h1,r⟩:=g.obj _ _ e
  obtain ⟨its,rv,⟨o,n,ho,hc,_,hd⟩,_⟩:=I.list (SqL.of h1)
  obtain ⟨as,h2,h3⟩:=DqL.reads I g h r rv
  exact ⟨_,.list ho hc hd h2,fun z => by simp [jl] at z⟩
 | _, _, _, _, .dic (a := a) (kvs := kvs) e hk hv, r0, r1 => by
  cases r0
  obtain rfl:=r1
  obtain ⟨vs,h1,rd⟩ : ∃ vs,Rd H a (.dK vs) /\ RelD X.K H vs kvs:=by
   rcases e with e | ⟨ob,raw,e⟩
   . obtain ⟨vs,h1,rd⟩:=g.obj _ _ e
     exact ⟨vs,.inl h1,rd⟩
   . obtain ⟨h1,rd⟩:=g.obj _ _ e
     exact ⟨raw,.inr ⟨_,h1⟩,rd⟩
  obtain ⟨_,hs,ws,kv,o,es,ep,ho,ex,hd,_,pr,_⟩:=dk_rd I.hok h1
  obtain ⟨rk,rv⟩:=rd.split
  obtain ⟨uk,uv⟩:=vE kv pr
  obtain ⟨as,h2,h3⟩:=DqL.reads I g hk rk uk
  obtain ⟨bs,h4,h5⟩:=DqL.reads I g hv rv uv
  refine ⟨_,.dict ho ex.1 hd h2 h4,fun z hb => ?_⟩
  obtain ⟨z1,z2⟩:=yw (by simpa [jl] using z)
  rcases List.mem_append.mp hb with y | y
  . rcases List.mem_cons.mp y with y | y
    . exact beq_eq_false_iff_ne.mp hs y.symm
    . exact h3 z1 y
  . exact h5 z2 y
theorem DqL.reads (I : Inv X pins σ H s) (g : HRel X.K en H G) : ∀ {ts : List T} {ds : List PyData} {vs : List V} {us : List Value},DqL G ts ds -> RelL X.K H vs ts -> Vals vs us -> ∃ as,ReadsAll s.heap us ds as /\ (iy ds = true -> sysModules ∉ as)
 | _,_,_,_,.nil,.nil,.nil => ⟨_,.nil,fun _ h => by cases h⟩
 | _,_,_,_,.cons h hs,.cons r rs,.cons u us => by
  obtain ⟨as,h1,h2⟩:=Dq.reads I g h r u
  obtain ⟨bs,h3,h4⟩:=DqL.reads I g hs rs us
  refine ⟨_,.cons h1 h3,fun z ha => ?_⟩
  rw [iy,Bool.and_eq_true] at z
  exact (List.mem_append.mp ha).elim (h2 z.1) (h4 z.2)
end
end
section
variable {X : Cx} {e : Expr} {pos p : Pos} {en : En} {l : LA}
end
end Dv
namespace Vl
open PySem PySem.Spec PyProof.Rows L2 Dv
variable [Dv.Wld]
mutual
def pq : PV -> PyData
 | .non => .none
 | .bl b => .bool b
 | .int i => .int i
 | .str x => .str x
 | .tup ts => .tuple (lY ts)
 | .lst ts => .list (lY ts)
 | .dic kvs => .dict (xv kvs)
 | _ => .none
def lY : List PV -> List PyData
 | [] => []
 | t :: ts => pq t :: lY ts
def xv : List (Key × PV) -> List (PyData × PyData)
 | [] => []
 | (k,v) :: r => ((match k with | .inl i => .int i | .inr x => .str x),pq v) :: xv r
end
end Vl
noncomputable section
namespace Vl
open PySem PySem.Spec PyProof.Rows L2 Dv
variable [Dv.Wld]
mutual
def iq : PV -> Bool
 | .exc _ _ _ => false
 | .lam _ => false
 | .dicN _ => false
 | .tup ts => jf ts
 | .lst ts => jf ts
 | .dic _ => false
 | _ => true
def jf : List PV -> Bool
 | [] => true
 | t :: ts => iq t && jf ts
end
mutual
theorem jX : ∀ {p : PV},iq p = true -> (pq p).hasDict = false
 | .non,_ => rfl
 | .bl _,_ => rfl
 | .str _,_ => rfl
 | .int _,_ => rfl
 | .tup ts,h => by simpa [pq,PyData.hasDict] using uw (ps:=ts) (by simpa [iq] using h)
 | .lst ts,h => by simpa [pq,PyData.hasDict] using uw (ps:=ts) (by simpa [iq] using h)
 | .dic _,h => by simp [iq] at h
 | .exc _ _ _,h => by simp [iq] at h
 | .lam _,h => by simp [iq] at h
 | .dicN _,h => by simp [iq] at h
 | .ty _,_ => rfl
 | .ins _ _,_ => rfl
theorem uw : ∀ {ps : List PV},jf ps = true -> PyData.hasDictAll (lY ps) = false
 | [],_ => rfl
 | t :: ts,h => by
  rw [jf,Bool.and_eq_true] at h
  simp [lY,PyData.hasDictAll,jX h.1,uw h.2]
end
end Vl
noncomputable section
namespace Dv
open PySem PySem.Spec PyProof.Rows L2
variable [Dv.Wld]
section
variable {X : Cx} {pins : List (Addr × Obj)} {σ : L2.St} {H : Hp} {s : Shared} {a C : Addr} {oe : Obj} {d : Option Addr} {vs : Array Value}
theorem adj {P : Program} {w : World} {h : Heap} (e : h.get? a = some oe) (hz : Zc (.ref C) d oe) (hd : oe.data = .fields vs) : ObjOk P w H h a (iE a C d) :=
 ⟨⟨oe,vs,e,hz,hd⟩,⟨oe,e⟩,fun _ _ ⟨o,us,q1,q2,q3⟩ st => ⟨o,us,st o q1,q2,q3⟩⟩
theorem held (I : L2.Inv X ((a,oe) :: pins) σ H s) (hn : X.s_0.heap.get? a = none) (hp : ∀ p ∈ X.pn ++ pins,p.1 ≠ a) (hz : Zc (.ref C) d oe) (hd : oe.data = .fields vs) :
    L2.Inv X pins σ (L2.upd H a (iE a C d)) s:=by
 obtain ⟨ea,na,nL,nF,nC⟩:=I.pin (a,oe) (List.mem_append_right _ List.mem_cons_self)
 have old : ∀ {b : Addr} {o : Obj},X.s_0.heap.get? b = some o -> b ≠ a:=fun {b o} e z => by
  rw [z,hn] at e
  cases e
 have trk : ∀ {b : Addr} {u : HO},H b = some u -> b ≠ a:=fun {b u} e z => by
  rw [z,na] at e
  cases e
 have un : Un X.fs X.ex X.H_0 (L2.upd H a (iE a C d)) X.s_0.heap s.heap:=by
  refine ⟨I.base.keep,I.base.slot,fun b o e1 e2 e3 => ?_,I.base.there,fun b xs e1 => ?_,fun b o u e1 => ?_,fun b ps e1 => ?_⟩
  . rw [upd_ne (old e1)]
    exact I.base.free b o e1 e2 e3
  . have q:=I.base.tups b xs e1
    rw [upd_ne (trk q)]
    exact q
  . have q:=I.base.frzs b o u e1
    rw [upd_ne (trk q)]
    exact q
  . obtain ⟨m,q⟩:=I.base.tbls b ps e1
    exact ⟨m,by rw [upd_ne (trk q)]; exact q⟩
 refine ⟨I.ok,I.os,I.bare,un,I.loc,I.cell,?_,fun y c e => ?_,fun p hq => ?_,I.hok.laidN (fun _ _ q => q) na (adj ea hz hd),I.len⟩
 . rw [upd_ne (fun z => nL z.symm)]
   exact I.free
 . rw [upd_ne (fun z => ?_)]
   . exact I.freeC y c e
   . obtain ⟨w,o,ho,hw⟩:=I.cell y c e
     rw [z,ea] at ho
     cases ho
     exact nC w hw
 . have hq2 : p ∈ X.pn ++ (a,oe) :: pins:=(List.mem_append.mp hq).elim (fun z => List.mem_append_left _ z) fun z => List.mem_append_right _ (List.mem_cons_of_mem _ z)
   obtain ⟨q1,q2,q3⟩:=I.pin p hq2
   exact ⟨q1,by rw [upd_ne (hp p hq)]; exact q2,q3⟩
end
section
variable {X : Cx} {x n y : Str} {c : Value} {i j : Nat} {body : List Stmt} {tb : WX -> TS} {np pos pos' py pe pa : Pos}
end
end Dv
noncomputable section
namespace Dv
open PySem PySem.Spec PyProof.Rows L2
variable [Dv.Wld]
section
variable {X : Cx} {e o e1 : Expr} {es : List Expr} {la : LE} {l : LA} {pos p apos cpos : Pos} {en : En} {x : Str}
end
structure Ex1 (K : Fr0) (mg : Str -> Option Value) (x f : Str) (C : Addr) : Prop where
 g : mg x = some (.ref C)
 oex : OexC K C
 noF : PySem.W.findIn K (.ref C) f = some none
 ini : ∃ (fI : Addr) (fd : FuncData) (qual p1 : Str) (st : Stmt) (q1 q2 q3 q4 : Pos),Fun K "__init__" qual st fI fd /\ PySem.W.findIn K (.ref C) "__init__" = some (some (.ref fI)) /\ PySem.W.typeIn K (.ref fI) = some (.type "function") /\ Binds K fd ["self",p1] [] /\
  defBody st = [.Assign [.Attribute (.Name "self" q1) f q2] (.Name p1 q3) q4] /\ FnScope ["self",p1] ["self",p1] (defScope st) /\ (p1 == ("__debug__" : Str)) = false /\ (p1 == ("__classdict__" : Str)) = false /\ (∀ Y : Cx,Y.env.scope = defScope st -> swapsWith (.Name p1 q3) (some (.Attribute (.Name "self" q1) f q2)) q4.line Y.env = pure false)
section
variable {P : Program} {w : World} {K : Fr0} {mg : Str -> Option Value} {base : Heap}
def ac4 (K : Fr0) (C : Addr) (f : Str) : Sp:=fun vs H Q _ => ∃ a v,vs = [.ref a,v] /\ OexC K C /\ PySem.W.findIn K (.ref C) f = some none /\ H a = some (exo a C none) /\ ∀ dx,H dx = none -> dx ≠ a -> Q .non (L2.upd (L2.upd H dx (exd dx [(f,v)])) a (exo a C (some dx)))
theorem aaJ {C fI : Addr} {fd : FuncData} {qual f p1 : Str} {st : Stmt} {q1 q2 q3 q4 : Pos} (F : Fun K "__init__" qual st fI fd) (S : FnScope ["self",p1] ["self",p1] (defScope st)) (hb : defBody st = [.Assign [.Attribute (.Name "self" q1) f q2] (.Name p1 q3) q4])
 (hd : (p1 == ("__debug__" : Str)) = false) (hc : (p1 == ("__classdict__" : Str)) = false) (hsw : ∀ Y : Cx,Y.env.scope = defScope st -> swapsWith (.Name p1 q3) (some (.Attribute (.Name "self" q1) f q2)) q4.line Y.env = pure false) :
    FnOk P w K mg base (L2.CX P w) 1 fI fd ["self",p1] (ac4 K C f):=by
 refine F.okX S (fun vs H Q E ⟨a,v,e,_⟩ => by rw [e]; rfl) fun cdv A outer s H vs Q E hr h => ?_
 obtain ⟨a,v,rfl,ok,hf,ha,q⟩:=h
 rw [hb]
 have vis : ∀ y ∈ (["self",p1] : List Str),Vis (defScope st) y:=fun y hy => by
  rcases S.par y hy with z | z
  . exact .inl z
  . exact .inr (.inl z)
 refine ⟨_,pss_one (ps_ost (pe_var (i:=0) rfl (vis _ (by simp))) (pe_var (i:=1) rfl (vis _ (by simp)) hd hc) (hsw _ rfl)),?_⟩
 exact ⟨v,rfl,.ref a,rfl,a,C,rfl,ok,hf,.inl ⟨ha,fun dx h1 h2 => q dx h1 h2⟩⟩
end
section
variable {X : Cx} {C : Addr} {x f : Str} {a : Expr} {ta : TA} {p pos : Pos} {k : Nat}
def ab1 (C : Addr) (f : Str) (ta : TA) : L2.St -> Hp -> XK -> Prop:=fun σ H Q => ta σ H fun vs H1 => ∃ v,vs = [v] /\ ∀ d,H1 d = none -> Q (.ref C) (some d) (L2.upd H1 d (.xd [(f,v)]))
theorem aaC (E : Ex1 X.K X.mg x f C) (hr : Room 2 X.A) (ha : PA X [a] ta) (hw : ∀ σ H Q Q',(∀ vs H',Q vs H' -> Q' vs H') -> ta σ H Q -> ta σ H Q') (hg : Gl X x:=by rfl) (hdb : (x == ("__debug__" : Str)) = false:=by decide)
 (he : starEach (a :: []) X.env = (false,eval a X.env) :: starEach [] X.env:=by rfl) (hpl : (backTo pos (starEach [] X.env)).any (·.1) = false:=by rfl) : PMk X (.Call (.Name x p) [a] [] pos) (ab1 C f ta):=by
 obtain ⟨fI,fd,qual,p1,st,q1,q2,q3,q4,F,iC,tI,hb,hbd,S,hd,hc,hsw⟩:=E.ini
 have h:=pmk_oex (pos:=pos) (p:=p) E.oex iC tI (aaJ (C:=C) (P:=X.prog) (w:=X.w) (mg:=X.mg) (base:=X.base) F S hbd hd hc hsw) hr hb .nil (fun _ _ _ _ _ _ _ z => by obtain ⟨_,_,_,_,_,_,_,_,_,_,_,_,z⟩:=z; exact z.elim) hg E.g ha hdb he hpl
 refine fun pins s σ H Q I q => h pins s σ H Q I (hw _ _ _ _ (fun vs H1 ⟨v,ev,k⟩ => ?_) q)
 subst ev
 refine ⟨by simp,fun b hb1 => ⟨b,v,rfl,E.oex,E.noF,upd_same,fun dx h1 h2 => ?_⟩⟩
 rw [upd_ne h2] at h1
 refine ⟨rfl,dx,[(f,v)],upd_same,by rw [upd_ne h2,upd_same],h1,?_⟩
 have e : L2.upd (L2.del (L2.upd (L2.upd (L2.upd H1 b (exo b C none)) dx (exd dx [(f,v)])) b (exo b C (some dx))) b) dx (.xd [(f,v)]) = L2.upd H1 dx (.xd [(f,v)]):=by
  funext c
  by_cases hc : c = dx
  . subst hc; rw [upd_same,upd_same]
  . rw [upd_ne hc,upd_ne hc]
    by_cases hcb : c = b
    . subst hcb; rw [L2.del_same,hb1]
    . rw [L2.del_ne hcb,upd_ne hcb,upd_ne hc,upd_ne hcb]
 rw [e]
 exact k dx h1
end
end Dv
noncomputable section
namespace Vl
open PySem PySem.Spec PyProof.Rows L2 Dv
variable [Dv.Wld]
abbrev eS (l : List Nat) (S0 : S2) (Fr F0 : Gp) : Io:=⟨l,some (S0,Fr,F0)⟩
structure ExL (X : Cx) (en : En) (l : List Nat) (S0 : S2) (Fr F0 : Gp) (XE : XV) where
 E : XK
 tk : Takes X (fun cls d _ H => E cls d H)
 out : ∀ C fs fT σ' F' own' S' G' H' cls d,XE C fs (bN l σ') -> Ext F0 F' -> VRel ⟨X.N.length,⟨l,none⟩,S0,Fr⟩ F' own' S' G' σ' -> RpF F' fT fs -> pC X.K H' cls d C fT -> HRel X.K en H' G' -> E cls d H'
theorem VRel.unpin {N : Nat} {l : List Nat} {S0 S : S2} {Fr F0 F G : Gp} {w : Fq} {own : Nat -> Gp} {σ : SV} (g : VRel (ak N (eS l S0 Fr F0) w) F own S G σ) : VRel ⟨N,⟨l,none⟩,S0,Fr⟩ F own S G σ /\ Ext F0 F:=by
 obtain ⟨e,f1,f2⟩:=g.px S0 Fr F0 rfl
 have less : ∀ a,w.Fr a = none -> Fr a = none:=fun a z => by
  cases y : Fr a with
  | none => rfl
  | some o => have:=f1 a o y; rw [show (ak N (eS l S0 Fr F0) w).Fr a = w.Fr a from rfl,z] at this; cases this
 refine ⟨⟨g.len,fun i hi => ?_,g.sub,f1.trans g.frs,fun a z => less a (g.frF a z),g.owG,fun i a z => ⟨(g.owF i a z).1,less a (g.owF i a z).2⟩,g.dis,g.cell,Io.ok0⟩,⟨f2⟩⟩
 have:=g.pin i hi
 rw [e] at this
 exact this
section
variable {X : Cx} {en : En} {l : List Nat} {S0 : S2} {Fr F0 : Gp} {XE : XV} {x f : Str} {C : Addr} {p p2 p3 p4 pos : Pos} {a e : Expr} {es : List Expr} {va : VE}
def rD (C : Addr) (f : Str) (l : List Nat) (XE : XV) (va : VE) : VS:=fun _ σ => va σ fun r σ1 => match tk σ1 r with
 | some (p,σ2) => XE C [(f,p)] (bN l σ2)
 | none => False
theorem yI (xl : ExL X en l S0 Fr F0 XE) (E1 : Ex1 X.K X.mg x f C) (hr : Room 2 X.A) (ha : Ev en X (eS l S0 Fr F0) a va) (hc : X.calm = true:=by rfl) (hg : Gl X x:=by rfl) (hdb : (x == ("__debug__" : Str)) = false:=by decide)
 (he : starEach (a :: []) X.env = (false,eval a X.env) :: starEach [] X.env:=by rfl) (hpl : (backTo p3 (starEach [] X.env)).any (·.1) = false:=by rfl) :
    cS en X (eS l S0 Fr F0) (.Raise (some (.Call (.Name x p) [a] [] p3)) none p4) (rD C f l XE va):=by
 refine PS.weak (ps_raise hc xl.tk (aaC E1 hr (ea_cons ha ea_nil he) (fun σ H Q Q' m ⟨S,G,Φ,s,g,q,k⟩ => ⟨S,G,Φ,s,g,q,fun ts G' vs H' a b c d => m _ _ (k ts G' vs H' a b c d)⟩) hg hdb he hpl)) fun D σ H ⟨S,G,L,s,g,q,e⟩ => ?_
 obtain ⟨w,F,own,σv,VL,g1,q1,k⟩:=q
 refine ⟨S,G,fun ts G1 => ∃ t F2 own2 σ2 p,ts = [t] /\ XE C [(f,p)] (bN l σ2) /\ VRel (ak X.N.length (eS l S0 Fr F0) w) F2 own2 S G1 σ2 /\ Rp F2 t p,s,g,?_,?_⟩
 . refine ⟨w,F,own,σv,_,g1,q1,fun r σ1 F1 own1 G1 t q2 x1 g2 r1 => ?_⟩
   split at q2
   . rename_i p σ2 e2
     obtain ⟨F3,own3,g3,x3,rp⟩:=g2.tk r1 e2
     exact ⟨t,F3,own3,σ2,p,rfl,q2,g3,rp⟩
   . exact q2.elim
 . rintro ts G1 vs H1 ⟨t,F2,own2,σ2,p,rfl,hx,g2,rp⟩ rl g3 st
   cases rl with
   | @cons v _ vs _ r1 r2 =>
    cases r2
    refine ⟨v,rfl,fun d hd => ?_⟩
    obtain ⟨g4,x4⟩:=g2.unpin
    obtain ⟨g5,_,st5⟩:=g3.laid (ho:=.xd [(f,v)]) hd
    exact xl.out C [(f,p)] [(f,t)] σ2 F2 own2 S G1 _ _ (some d) hx x4 g4 (.cons rp .nil) ⟨rfl,.inr ⟨d,_,rfl,upd_same,.cons (r1.stay st5) .nil⟩⟩ g5
def tP (N : Nat) (l : List Nat) (S0 : S2) (Fr F0 : Gp) (XE : XV) : cW:=fun C fT G' => ∃ fs σ' F' own' S',XE C fs (bN l σ') /\ Ext F0 F' /\ VRel ⟨N,⟨l,none⟩,S0,Fr⟩ F' own' S' G' σ' /\ RpF F' fT fs
theorem ExL.passes (xl : ExL X en l S0 Fr F0 XE) : Passes (L2.CX X.prog X.w) X (eO X.K en (tP X.N.length l S0 Fr F0 XE)) :=
 passes_call xl.tk fun cls d σ H ⟨C,fT,G,⟨fs,σ',F',own',S',q1,q2,q3,q4⟩,er,hr⟩ => xl.out C fs fT σ' F' own' S' G H cls d q1 q2 q3 q4 er hr
end
section
variable {X : Cx} {en : En} {l ioc : List Nat} {S0 : S2} {Fr F0 : Gp} {XE : XV} {e : Expr} {es : List Expr} {va : VA} {spv : SpV} {dts : List T} {dps : List PV} {n : Nat}
theorem acJ {N : Nat} {w : Fq} {F G : Gp} {own : Nat -> Gp} {S : S2} {σ : SV} {ts : List T} {as : List Ag} {Ψ : RV -> SV -> Prop} {Φ : QT} (hd : ∀ F,RpL F dts dps) (g : VRel (ak N (eS l S0 Fr F0) w) F own S G σ) (ha : a6 F S ts as) (hl : as.length + dps.length = n) (hn : (a7 as).Nodup)
 (h : spv (cz σ (as ++ dps.map Sum.inl)) (fun c σr => Ψ (.v c) (backV σr 0 as σ)) (fun C fs σr => XE C fs (bN l (backV σr 0 as σ))))
 (k : ∀ r σ' F' own' G' t,Ψ r σ' -> Ext F F' -> VRel (ak N (eS l S0 Fr F0) w) F' own' S G' σ' -> du (ak N (eS l S0 Fr F0) w) F' own' S G' t r -> Φ t G') : bV n ioc spv (ts ++ dts) G Φ (tP N l S0 Fr F0 XE):=by
 have inj:=pO hn
 have ha2 : a6 F S (ts ++ dts) (as ++ dps.map Sum.inl):=a6.app (a6.inls (hd F)) ha
 have hl2 : (ts ++ dts).length = n:=by rw [ha2.len,List.length_append,List.length_map]; exact hl
 have hj : ∀ i k t,aO as i = some k -> (ts ++ dts)[i]? = some t -> S[k]? = some (some t):=by
  intro i k t h1 h2
  rw [<- jQ (dps:=dps)] at h1
  unfold aO at h1
  split at h1
  . rename_i j e
    cases h1
    obtain ⟨u,e1,e2⟩:=ha2.get e
    rw [h2] at e1
    cases e1
    exact e2
  . cases h1
 have gc:=VRel.call (io':=ioc) (js:=aO as) (σa:=cz σ (as ++ dps.map Sum.inl)) g hl2 inj fun i c e => by
  unfold cz at e
  split at e
  . rename_i a ea
    obtain ⟨t,e1,e2⟩:=ha2.get ea
    refine ⟨t,e1,?_⟩
    cases a with
    | inl p =>
     cases e
     refine .inr ⟨?_,p,rfl,e2⟩
     rw [<- jQ (dps:=dps)]
     unfold aO
     rw [ea]
    | inr j =>
     refine .inl ⟨j,?_,e,e2⟩
     rw [<- jQ (dps:=dps)]
     unfold aO
     rw [ea]
  . cases e
 have bk : ∀ {σ' : SV} {k : Nat} {c : Cell},backV σ' 0 as σ k = some c -> (∃ i,aO as i = some k /\ σ' i = some c) \/ ((∀ i,aO as i ≠ some k) /\ σ k = some c):=fun {σ' k c} e => by
  rcases nu e with ⟨i,h1,h2⟩ | h1
  . exact .inl ⟨i,h1,by simpa using h2⟩
  . exact .inr h1
 refine ⟨hl2,_,F,_,_,_,_,gc,h,⟨fun c σ' F' own' H t G' q x g' r m => ?_,fun C fs fT σ' F' own' G' q x g' rf => ?_⟩⟩
 . obtain ⟨own3,g3,m3⟩:=VRel.back (σb:=backV σ' 0 as σ) g inj hj x g' m fun k c e => bk e
   exact k _ _ _ _ _ _ q x g3 ⟨H,r,m3⟩
 . obtain ⟨own3,g3,m3⟩:=VRel.back (H:=aB) (σb:=backV σ' 0 as σ) g inj hj x g' .nil fun k c e => bk e
   obtain ⟨g4,x4⟩:=g3.unpin
   exact ⟨fs,_,F',own3,S,q,x4,g4,rf⟩
def qO (n : Nat) (ioc : List Nat) (sp : SpV) (dps : List PV) (l : List Nat) (XE : XV) (va : VA) : VE:=fun σ Ψ => va σ fun rs σ1 => match eN ioc 0 rs σ1 with
 | some (as,σ2) => as.length + dps.length = n /\ (a7 as).Nodup /\ sp (cz σ2 (as ++ dps.map Sum.inl)) (fun c σr => Ψ (.v c) (backV σr 0 as σ2)) (fun C fs σr => XE C fs (bN l (backV σr 0 as σ2)))
 | none => False
theorem yp (hd : ∀ F,RpL F dts dps) (he : ∀ la,Ea en X es la -> E en X e (hM (bV n ioc spv) dts (tP X.N.length l S0 Fr F0 XE) la)) (h : dM en X (eS l S0 Fr F0) es va) : Ev en X (eS l S0 Fr F0) e (qO n ioc spv dps l XE va):=bS (he _ h) fun S G Φ ⟨w,F,own,σ,Ψ,g,q,k⟩ => by
 refine ⟨w,F,own,σ,_,g,q,fun rs σ1 F1 own1 G1 ts q1 x1 g1 r1 => ?_⟩
 split at q1
 . rename_i as σ2 e1
   obtain ⟨F2,own2,g2,x2,a2⟩:=jp g1 r1 e1
   exact acJ hd g2 a2 q1.1 q1.2.1 q1.2.2 fun r σ' F' own' G' t h1 x h2 h3 => k r σ' F' own' G' t h1 ((x1.trans x2).trans x) h2 h3
 . exact q1.elim
end
section
variable {X : Cx} {x : Str} {p pos : Pos} {e : Expr} {es : List Expr} {sp : aI} {dts : List T} {E2 : cW} {la : LA} {k : Nat} {en : En} {kws : List Keyword} {ix ioc l : List Nat} {ks : List Str} {lk : LA} {S0 : S2} {Fr F0 : Gp} {XE : XV} {vk : VA} {spv : SpV} {n m : Nat}
theorem xT (F : Kn X.prog X.w X.K X.mg X.base k x sp dts) (hr : Room k X.A) (hx : Passes (L2.CX X.prog X.w) X (eO X.K en E2)) (ha : Ea en X (e :: es) la) (hg : Gl X x:=by rfl) (hdb : (x == ("__debug__" : Str)) = false:=by decide)
 (he : starEach (e :: es) X.env = (false,eval e X.env) :: starEach es X.env:=by rfl) (hpl : (backTo pos (starEach es X.env)).any (·.1) = false:=by rfl) : E en X (.Call (.Name x p) (e :: es) [] pos) (hM sp dts E2 la):=by
 obtain ⟨f,fd,ps,dvs,ds,a,hm,hk,hb,hd,hdt⟩:=F.ex
 exact xj a hr hg hm hk hb hd hdt hx ha hdb he hpl
end
section
variable {P : Program} {w : World} {K : Fr0} {mg : Str -> Option Value} {base : Heap} {x qual : Str} {st : Stmt} {N ps : List Str} {k n : Nat} {spv : SpV} {io : List Nat} {C : Addr}
theorem xU {ts : List T} {l : List Nat} {Fr F' G' : Gp} {own' : Nat -> Gp} {S' : S2} {σ' : SV} (hl : ts.length = n) {M : Nat} (g' : VRel ⟨M,⟨l,none⟩,bo N ts,Fr⟩ F' own' S' G' σ') :
    VRel ⟨n,⟨l,none⟩,ts.map some,Fr⟩ F' (fun i => if i ∈ l then own' i else aB) (ts.map some) G' (bN l σ'):=by
 refine ⟨by rw [List.length_map]; exact hl,fun i _ => rfl,g'.sub,g'.frs,g'.frF,fun i a o e => ?_,fun i a e => ?_,fun i j a hij e => ?_,fun i c e => ?_,Io.ok0⟩
 . split at e
   . exact g'.owG i _ _ e
   . cases e
 . split at e
   . exact g'.owF i a e
   . exact absurd rfl e
 . split at e
   . split
     . exact g'.dis i j a hij e
     . rfl
   . exact absurd rfl e
 . unfold bN at e
   split at e
   . rename_i hi
     obtain ⟨t,e1,e2⟩:=g'.cell i c e
     have:=g'.pin i hi
     rw [e1] at this
     refine ⟨t,?_,?_⟩
     . rw [List.getElem?_map,yW this.symm]; rfl
     . rw [if_pos hi]; exact e2
   . cases e
abbrev uM (P : Program) (w : World) (K : Fr0) (mg : Str -> Option Value) (base : Heap) (N : List Str) (qual : Str) (scope : Scope) (k : Nat) (body : List Stmt) (io : List Nat) (spv : SpV) : Prop :=
 ∀ (f : Addr) (cdv : Value) (A : Around) (outer : List Env) (s : Shared) (H : Hp) (E : XK) (en : En),Room k (A.deeper (envOfC qual scope s.heap.objs.size f cdv)) ->
  ∀ (S0 : S2) (Fr F0 : Gp) (XE : XV),ExL (bx P w K mg base N qual scope f cdv A outer s H E) en io S0 Fr F0 XE ->
  ∃ vs,dG en (bx P w K mg base N qual scope f cdv A outer s H E) (eS io S0 Fr F0) body vs /\ ∀ σ Ψ,spv σ Ψ XE -> vs (jG io Ψ) σ
theorem xk {scope : Scope} {body : List Stmt} (hN : n <= N.length) (hb : uM P w K mg base N qual scope k body io spv) (f : Addr) : BodyOk P w K mg base N qual scope f k body (bV n io spv):=fun cdv A outer s H E ts G Φ ΦE hr ho hsp => by
 obtain ⟨hl,Fr,F,own,σ,Ψ,ΨE,g,hs,cal⟩:=hsp
 obtain ⟨vs,h1,h2⟩:=hb f cdv A outer s H E [(H,G)] hr (bo N ts) Fr F ΨE ⟨E,takes_of rfl rfl rfl rfl,fun C fs fT σ' F' own' S' G' H' cls d q x g' rf er hr' => by
  refine ho C fT G' H' cls d (cal.er C fs fT _ F' _ G' q x (xU hl g') rf) er hr'.nil (hr'.hist (H,G) (List.mem_singleton.mpr rfl))⟩
 refine ⟨_,h1,⟨bo N ts,Fr⟩,F,own,σ,_,⟨?_,fun i _ => rfl,g.sub,g.frs,g.frF,g.owG,g.owF,g.dis,fun i c e => ?_,fun a b c e => ?_⟩,h2 σ Ψ hs,?_⟩
 . show (bo N ts).length = N.length
   unfold bo
   rw [List.length_append,List.length_map,List.length_replicate,hl]
   exact Nat.add_sub_cancel' hN
 . obtain ⟨t,e1,e2⟩:=g.cell i c e
   rw [List.getElem?_map] at e1
   cases q : ts[i]? with
   | none => rw [q] at e1; cases e1
   | some u =>
    rw [q] at e1
    cases e1
    exact ⟨_,v6 q,e2⟩
 . cases e
   exact ⟨rfl,Sub.refl _,Sub.refl _⟩
 . have un : ∀ {F' : Gp} {own' : Nat -> Gp} {S' : S2} {G' : Gp} {σ' : SV},VRel (ak N.length (eS io (bo N ts) Fr F) ⟨bo N ts,Fr⟩) F' own' S' G' σ' -> VRel ⟨n,⟨io,none⟩,ts.map some,Fr⟩ F' (fun i => if i ∈ io then own' i else aB) (ts.map some) G' (bN io σ') :=
     fun g' => xU hl g'.unpin.1
   have fint : ∀ {F' : Gp} {own' : Nat -> Gp} {G' H : Gp},Tmp (ak N.length (eS io (bo N ts) Fr F) ⟨bo N ts,Fr⟩) F' own' G' H -> Tmp ⟨n,⟨io,none⟩,ts.map some,Fr⟩ F' (fun i => if i ∈ io then own' i else aB) G' H:=by
    intro F' own' G' H m
    refine ⟨m.sub,m.dF,fun a i e => ?_⟩
    split
    . exact m.dO a i e
    . rfl
   refine ⟨fun S' G' σ' F' own' q x' g' => ?_,fun r σ' F' own' S' G' t q x' g' r' => ?_,fun _ _ _ _ _ q => q.elim,fun _ _ _ _ _ q => q.elim⟩
   . exact cI.of (cal.ok _ _ _ _ _ _ _ q x' (un g') (show bu F' aB .non (.fr .non) from .non) .nil)
   . cases r with
     | v c =>
      obtain ⟨H,h1,h2⟩:=r'
      exact cI.of (cal.ok _ _ _ _ _ _ _ q x' (un g') h1 (fint h2))
     | sl i =>
      obtain ⟨hi,q⟩:=q
      cases e : σ' i with
      | none => rw [e] at q; exact q.elim
      | some c =>
       rw [e] at q
       obtain ⟨u,e1,e2⟩:=g'.cell i c e
       have r' : S'[i]? = some (some t):=r'
       rw [r'] at e1
       cases e1
       refine cI.of (cal.ok _ _ _ _ _ _ _ q x' (un g') e2 ⟨g'.owG i,fun a z => g'.owF i a z,fun a j z => ?_⟩)
       split
       . rename_i hj
         exact g'.dis i j a (fun y => hi (by rw [y]; exact hj)) z
       . rfl
theorem zm (D : Df K mg x st ps) (S : FnScope N ps (defScope st)) (hn : n = ps.length) (hN : n <= N.length) (hb : uM P w K mg base N x (defScope st) k (defBody st) io spv) : c9 P w K mg base (k + 1) x n io spv :=
 mX D S (fun ts G Φ ΦE h => h.1.trans hn) fun f => xk hN hb f
end
end Vl
noncomputable section
namespace Dv
open PySem PySem.Spec PyProof.Rows L2
variable [Dv.Wld]
noncomputable def oC (K : Fr0) : List (Addr × Str):=jD.filterMap fun x => (ky K x).map fun cp => (cp.2,x ++ ".<locals>." ++ "<lambda>")
theorem aak {K : Fr0} {p : Addr × Str} (h : p ∈ oC K) : ∃ x c,x ∈ jD /\ ky K x = some (c,p.1) /\ p.2 = x ++ ".<locals>." ++ "<lambda>":=by
 obtain ⟨x,hx,e⟩:=List.mem_filterMap.mp h
 obtain ⟨⟨c,P⟩,e1,e2⟩:=Option.map_eq_some_iff.mp e
 subst e2
 exact ⟨x,c,hx,e1,rfl⟩
theorem afl {K : Fr0} {x : Str} {c P : Addr} (hx : x ∈ jD) (e : ky K x = some (c,P)) : (P,x ++ ".<locals>." ++ "<lambda>") ∈ oC K:=List.mem_filterMap.mpr ⟨x,hx,by rw [e]; rfl⟩
theorem TabsOk.tabs {K : Fr0} {H : Hp} (t : TabsOk K H) : LamX.Tabs (oC K) H:=fun p hp => by
 obtain ⟨x,c,hx,e,e2⟩:=aak hp
 obtain ⟨c',P,e3,h⟩:=t.tab x hx
 rw [e] at e3
 cases e3
 rw [e2]
 exact h
theorem TabsOk.of {K : Fr0} {H H' : Hp} (t : TabsOk K H) (h : LamX.Tabs (oC K) H') : TabsOk K H' :=
 ⟨fun x hx => let ⟨c,P,e,_⟩:=t.tab x hx; ⟨c,P,e,h _ (afl hx e)⟩,t.inj⟩
end Dv
namespace Vl
open PySem PySem.Spec PyProof.Rows L2 Dv
variable [Dv.Wld]
section
variable {X : Cx} {Ng : List Str} {xg a y n xe q : Str} {sg : Scope} {g CS : Addr} {cdg : Value} {i j k k0 : Nat} {rest : List Stmt} {spR : PV -> (Cell -> Prop) -> Prop} {p1 p2 p3 p4 p5 p6 p7 p8 p9 pe py py2 pa pa2 pt pt2 : Pos}
end
section
variable {X : Cx} {en : En} {io : Io} {xg a : Str} {g CS c P : Addr} {k : Nat} {spR : PV -> (Cell -> Prop) -> Prop} {pg : Arguments} {bg : List Stmt} {sg : Scope} {kV doc pm cdv ct oc : Value} {an od : Option Addr} {osl : Array (Option Value)} {Ng : List Str} {params : Arguments} {body : Expr} {scope : Scope} {ve : XV -> VE} {p lpos pos : Pos}
theorem RpF.split {F : Gp} : ∀ {ts : List (Str × T)} {ps : List (Str × PV)},RpF F ts ps -> ts.map (·.1) = ps.map (·.1) /\ RpL F (ts.map (·.2)) (ps.map (·.2))
 | _,_,.nil => ⟨rfl,.nil⟩
 | _,_,.cons r rs => by
  obtain ⟨h1,h2⟩:=RpF.split rs
  exact ⟨by simp [h1],.cons r h2⟩
end
end Vl
noncomputable section
namespace Vl
open PySem PySem.Spec PyProof.Rows L2 Dv
variable [Dv.Wld]
section
variable {X : Cx} {en : En} {io : Io} {e a b : Expr} {va vb : VE}
end
section
variable {X : Cx} {en : En} {io : Io} {xg a : Str} {CS c P : Addr} {k j : Nat} {spR : PV -> (Cell -> Prop) -> Prop} {params : Arguments} {body : Expr} {scope : Scope} {ve : XV -> VE} {p lpos pos : Pos}
end
section
variable {P : Program} {w : World} {K : Fr0} {mg : Str -> Option Value} {base : Heap} {x qual : Str} {st : Stmt} {N ps : List Str} {k n : Nat} {spv : SpV} {io : List Nat} {f c : Addr} {fd : FuncData}
end
end Vl
noncomputable section
namespace Dv
open PySem PySem.Spec PyProof.Rows L2
variable [Dv.Wld]
end Dv
noncomputable section
namespace Dv
open PySem PySem.Spec PyProof.Rows L2
variable [Dv.Wld]
section
variable {X : Cx} {en : En} {pins : List (Addr × Obj)} {σ : L2.St} {H : Hp} {s : Shared} {G : Gp}
end
section
variable {X : Cx} {e : Expr} {pos p : Pos} {en : En} {l : LA}
end
end Dv
namespace Vl
open PySem PySem.Spec PyProof.Rows L2 Dv
variable [Dv.Wld]
end Vl
noncomputable section
namespace HT
open PySem PySem.Spec PyProof.Rows L2
section
variable {prog : Program} {w : World} {A : Around} {E : Value -> Shared -> Prop} {s : Shared}
end
end HT
namespace Dv
open PySem PySem.Spec PyProof.Rows L2
variable [Dv.Wld]
section
variable {X : Cx} {en : En} {a : Expr} {la : LE} {pos : Pos}
end
end Dv
namespace Vl
open PySem PySem.Spec PyProof.Rows L2 Dv
variable [Dv.Wld]
section
variable {X : Cx} {en : En} {io : Io} {a : Expr} {va : VE} {pos : Pos}
end
end Vl
noncomputable section
namespace Dv
open PySem PySem.Spec PyProof.Rows L2
variable [Dv.Wld]
theorem uc {K : Fr0} {C : Addr} : PySem.W.kitOne K (.ref C) (.ref C) = some true:=by
 unfold PySem.W.kitOne
 simp
theorem yZ {K : Fr0} {C D : Addr} (ne : C ≠ D) (cD : PySem.W.isClsIn K D = true) (tD : PySem.W.typeIn K (.ref D) = some (.type "type")) (s : PySem.W.subIn K (.ref C) (.ref D) = some false) : PySem.W.kitOne K (.ref C) (.ref D) = some false:=by
 unfold PySem.W.kitOne PySem.W.kitCls
 have h1 : ((Value.ref C == Value.ref D) = true) = False:=eq_false fun z => ne (by have:=beq_iff_eq.mp z; cases this; rfl)
 have h2 : (PySem.W.clsIn K D).isSome = true:=cD
 simp only [h1,if_false,h2,tD,s,beq_self_eq_true,Bool.and_self,if_true]
theorem y5 {K : Fr0} {C : Addr} (s : PySem.W.subIn K (.ref C) (.type "ValueError") = some true) : PySem.W.kitOne K (.ref C) (.type "ValueError") = some true:=by
 unfold PySem.W.kitOne PySem.W.kitCls
 have h1 : ((Value.ref C == Value.type "ValueError") = true) = False:=eq_false fun z => by have:=beq_iff_eq.mp z; cases this
 have h2 : PySem.W.kitMeta "ValueError" = true:=by decide +kernel
 simp only [h1,if_false,h2,if_true,s]
theorem xZ {K : Fr0} {C R : Addr} (rb : PySem.W.subIn K (.ref R) (.type "BaseException") = some true) (cR : PySem.W.isClsIn K R = true) (tR : PySem.W.typeIn K (.ref R) = some (.type "type")) (s : PySem.W.subIn K (.ref C) (.ref R) = some true) : PySem.W.exmOne K (.ref C) (.ref R) = some true:=by
 unfold PySem.W.exmOne PySem.W.kitCls
 have h2 : (PySem.W.clsIn K R).isSome = true:=cR
 simp only [rb,h2,tR,s,beq_self_eq_true,Bool.and_self,if_true]
end Dv
namespace Vl
open PySem PySem.Spec PyProof.Rows L2 Dv
variable [Dv.Wld]
end Vl
noncomputable section
namespace Dv
open PySem PySem.Spec PyProof.Rows L2
variable [Dv.Wld]
theorem wX : ∀ {us : List Value} {xs : List Int},IntsAre us xs -> ∀ (i : Nat) (v : Value),us[i]? = some v -> ∃ k t,xs[i]? = some k /\ v = .int k t
 | _,_,.nil,_,_,h => by cases h
 | _,_,.cons x t r,0,v,h => by cases h; exact ⟨x,t,rfl,rfl⟩
 | _,_,.cons x t r,i + 1,v,h => wX r i v h
section
variable {P : Program} {w : World} {A : Around} {E : Value -> Shared -> Prop} {s : Shared}
theorem adB {l : Addr} {items : Array Value} {Q : Value -> Shared -> Prop} (xs : List Int) (hh : A.handled = none) (hl : s.heap.IsList l items) (hit : IntsAre items.toList xs) (hb : xs.length + 1 < scanBound)
 (h : ∀ (h' : Heap) (tk c : Nat),SetR w h' s.heap.objs.size (fun j => decide (j ∈ xs)) c -> c <= xs.length -> (∀ b o,s.heap.get? b = some o -> h'.get? b = some o) -> Q (.ref s.heap.objs.size) { s with heap:=h',toks:=tk }) :
    wpAny (model P w) A (call (.type "set") [.ref l]) Q E s:=by
 refine tJ hh fun B hB => ?_
 have n1 : items.size = xs.length:=by
  have q:=IntsAre.length hit
  rwa [Array.length_toList] at q
 obtain ⟨⟨_,od,_,os⟩,ho,hc,n,hd⟩:=hl
 simp only at hc hd
 subst hc hd
 have lt : l < s.heap.objs.size:=Heap.lt_size ho
 have hl : s.heap.IsList l items:=⟨_,ho,rfl,n,rfl⟩
 have ho' : (s.heap.push (newSet w)).get? l = some { cls:=.type "list",dict:=od,data:=.seq items n,slots:=os }:=Heap.get?_push_of_some _ ho
 have j1:=F.sub_list_set
 have j2:=F.sub_list_frozenset
 have j3 : (Value.type "list" == Value.type "dict") = false:=by decide
 unfold Builtin.«set.__init__» noKeywords Builtin.Frozenset.updateFrom
 generalize hPI : pyIter = PI
 wp_walk
 subst hPI
 refine wpAny_pyIter_list (hl.push _) (wpAny_bind (wpAny_runValue ?_))
 have z1 : (s.heap.push (newSet w)).objs.size = s.heap.objs.size + 1:=Heap.size_push ..
 have ne : l ≠ (s.heap.push (newSet w)).objs.size:=by rw [z1]; exact Nat.ne_of_lt (Nat.lt_succ_of_lt lt)
 have out : s.heap.objs.size ∉ [(s.heap.push (newSet w)).objs.size,l]:=fun z => by
  rcases List.mem_cons.mp z with z | z
  . rw [z1] at z; exact absurd z (Nat.ne_of_lt (Nat.lt_succ_self _))
  . exact absurd (List.mem_singleton.mp z) (Nat.ne_of_gt lt)
 have hh3 : B.in1.in1.handled = none:=by simp [hB]
 refine set_update_ints ((Walks.list hh3 _ l ne items).toS) s.heap.objs.size out xs n1 hb (fun i v hv => ?hv) (items.size - 0) 0 _ (by omega) (Nat.zero_le _) ⟨⟨_,Heap.get?_push_size _ rfl,rfl,rfl⟩,(hl.push _).push _⟩ ⟨0,Nat.le_refl _,setR_new_at (Heap.get?_push_of_some _ (Heap.get?_push_size _ rfl))⟩ ?hR
 case hv =>
  exact wX hit i v (by rw [Array.getElem?_toList]; exact hv)
 case hR =>
  intro z c mv hc hS
  obtain ⟨h',g2,d2,tk,o2⟩:=z
  have e1 : g2 = s.gens:=mv.gens
  have e2 : d2 = s.drawn:=mv.drawn
  have e3 : o2 = s.os:=mv.os
  subst e1 e2 e3
  refine wpAny_pure (wpAny_pure ⟨rfl,h h' tk c hS (by omega) fun b o e => mv.heap b o ?_ (Heap.get?_push_of_some _ (Heap.get?_push_of_some _ e))⟩)
  have lb:=Heap.lt_size e
  intro z
  rcases List.mem_cons.mp z with z | z
  . exact absurd z (Nat.ne_of_lt lb)
  . exact absurd ((List.mem_singleton.mp z).trans z1) (Nat.ne_of_lt (Nat.lt_succ_of_lt lb))
end
section
variable {X : Cx} {es : List Expr} {e : Expr} {ta : TA} {p p2 q pos : Pos} {en : En}
def z9 (K : Fr0) : List V -> Hp -> VK -> Prop:=fun vs H Q => ∃ (a : Addr) (xs : List Int),vs = [.ref a] /\ SqL K H a (xs.map V.int) /\ xs.length <= 60 /\
 ∀ (ys : List Int) (p : Addr),ys.Pairwise (· < ·) -> (∀ y,y ∈ ys ↔ y ∈ xs) -> ys.length <= xs.length -> H p = none -> Q (.ref p) (L2.upd H p (.lst (ys.map V.int)))
theorem aeD (hc : X.calm = true) (hg : Gl X "sorted") (hm : X.mg "sorted" = none) (hg2 : Gl X "set") (hm2 : X.mg "set" = none) (ha : PA X [e] ta) (hs : starEach [e] X.env = [(false,eval e X.env)]:=by rfl)
 (na : starEach [.Call (.Name "set" p2) [e] [] q] X.env = (false,eval (.Call (.Name "set" p2) [e] [] q) X.env) :: starEach [] X.env:=by rfl) :
    PE X (.Call (.Name "sorted" p) [.Call (.Name "set" p2) [e] [] q] [] pos) (fun σ H Q => ta σ H fun vs H1 => z9 X.K vs H1 Q):=by
 refine ⟨fun pins s σ H Q I h => ?_⟩
 refine Call_ (ld_blt I hg hm boot_sorted ?_)
 refine PyProof.Rows.callWith_builtin1 (PyProof.Rows.args_cons ?_ na) na rfl
 refine Call_ (ld_blt I hg2 hm2 boot_set (PyProof.Rows.callWith_type1 (thn (ha.run q pins s σ H _ I h) fun us s1 ⟨vs,H1,I1,r1,q1⟩ => ?_) hs rfl))
 obtain ⟨a,xs,rfl,hq,hl,q1⟩:=q1
 rw [Vals.ref1 r1]
 have hd:=I1.ok.hd hc
 obtain ⟨its,r,pl,hz⟩:=I1.list hq
 refine adB xs hd pl.isList (by simpa using r.ints) (by unfold scanBound; omega) fun h' tk c R hcl k1 => PyProof.Rows.args_nil ?_
 refine sorted_set (s:={ s1 with heap:=h',toks:=tk }) R hd (by omega) fun s' p out ep zs k g o hp hg hi pm hm1 hln => ?_
 have zl : (zs.map V.int).length <= sizeLine:=by rw [List.length_map,hln,sizeLine_eq]; omega
 have hb : s1.heap.objs.size < h'.objs.size:=by
  obtain ⟨_,_,_,_,ho,_⟩:=R
  exact Heap.lt_size ho
 have hp1 : s1.heap.objs.size <= p:=Nat.le_trans (Nat.le_of_lt hb) hp
 have hn : H1 p = none:=I1.hok.fresh hp1
 have kk : ∀ b o,s1.heap.get? b = some o -> s'.heap.get? b = some o:=fun b o e => k b o (k1 b o e)
 have J : Inv X pins σ (L2.upd H1 p (.lst (zs.map V.int))) { s1 with heap:=s'.heap,gens:=s'.gens,drawn:=s'.drawn,toks:=s'.toks } :=
  I1.call (ch:=[]) (Un.laid kk hp1 hn) (I1.hok.laid kk hp1 ⟨zl,out.toList,ep,vals_of_ints hi,hg⟩) (by rw [g]; exact I1.bare) (fun _ z => nomatch z)
 have e : s' = { s1 with heap:=s'.heap,gens:=s'.gens,drawn:=s'.drawn,toks:=s'.toks }:=by
  cases s'
  cases s1
  cases o
  rfl
 rw [e]
 exact ⟨.ref p,_,J,rfl,q1 zs p pm (fun y => by rw [hm1]; exact decide_eq_true_iff) (by rw [hln]; exact hcl) hn⟩
theorem RelL.intsI {K : Fr0} {H : Hp} : ∀ {vs : List V} {ss : List Int},RelL K H vs (ss.map T.int) -> vs = ss.map V.int
 | _,[],.nil => rfl
 | _,_ :: _,.cons (.int _) r => by rw [RelL.intsI r]; rfl
theorem yA {K : Fr0} {H : Hp} : ∀ ss : List Int,RelL K H (ss.map V.int) (ss.map T.int)
 | [] => .nil
 | s :: ss => .cons (.int s) (yA ss)
def mS : cw:=fun ts G Φ => match ts with
 | [.ref a] => (match G a with
  | some (.lst xs) => ∃ is : List Int,xs = is.map T.int /\ is.length <= 60 /\ ∀ ys : List Int,ys.Pairwise (· < ·) -> (∀ y,y ∈ ys ↔ y ∈ is) -> ys.length <= is.length -> ∀ p,G p = none -> Φ (.ref p) (gup G p (.lst (ys.map T.int)))
  | _ => False)
 | _ => False
theorem abF {l : LA} (hm : X.mg "sorted" = none) (hm2 : X.mg "set" = none) (ha : Ea en X [e] l) (hg : Gl X "sorted":=by rfl) (hg2 : Gl X "set":=by rfl) (hc : X.calm = true:=by rfl) (hs : starEach [e] X.env = [(false,eval e X.env)]:=by rfl)
 (na : starEach [.Call (.Name "set" p2) [e] [] q] X.env = (false,eval (.Call (.Name "set" p2) [e] [] q) X.env) :: starEach [] X.env:=by rfl) :
    E en X (.Call (.Name "sorted" p) [.Call (.Name "set" p2) [e] [] q] [] pos) (cq mS l):=by
 refine PE.weak (aeD hc hg hm hg2 hm2 ha hs na) fun σ H Q ⟨S,G,Φ,s,g,q0,k⟩ => ⟨S,G,_,s,g,q0,fun ts G1 vs H1 q1 r1 g1 s1 => ?_⟩
 unfold mS at q1
 split at q1
 . cases r1 with
   | cons h1 h2 =>
    cases h1
    cases h2
    split at q1
    . rename_i xs e1
      obtain ⟨ss,rfl,hl,q1⟩:=q1
      obtain ⟨vs,h1,r2⟩:=g1.obj _ _ e1
      have e:=RelL.intsI r2
      subst e
      refine ⟨_,ss,rfl,SqL.of h1,hl,fun ys p y1 y2 y3 hp => ?_⟩
      obtain ⟨g2,s2⟩:=dJ g1 hp (yA ys)
      exact k _ _ _ _ (q1 ys y1 y2 y3 p (g1.fresh hp)) (.ref p) g2 (s1.trans s2)
    . exact q1.elim
 . exact q1.elim
end
end Dv
namespace Vl
open PySem PySem.Spec PyProof.Rows L2 Dv
variable [Dv.Wld]
def tj : List PV -> (Cell -> Prop) -> Prop
 | [.lst xs],k => ∃ is : List Int,xs = is.map PV.int /\ is.length <= 60 /\ ∀ ys : List Int,ys.Pairwise (· < ·) -> (∀ y,y ∈ ys ↔ y ∈ is) -> ys.length <= is.length -> k (.ow (.lst (ys.map PV.int)))
 | _,_ => False
theorem zh {F : Gp} : ∀ {is : List Int} {ts : List T},RpL F ts (is.map PV.int) -> ts = is.map T.int
 | [],_,.nil => rfl
 | i :: is,_,.cons r rs => by
  rw [List.map_cons,zh rs]
  cases r
  rfl
theorem wO {F : Gp} : ∀ is : List Int,RpL F (is.map T.int) (is.map PV.int)
 | [] => .nil
 | i :: is => .cons (.int i) (wO is)
theorem adi : fU mS tj:=fun F G ts ps Ψ Φ s r hh k => by
 match ps,hh with
 | [.lst xs],⟨is,hk,hl,hh⟩ =>
  subst hk
  obtain ⟨t,rfl,a,us,rfl,h1,r'⟩:=r.one
  have e:=zh r'
  subst e
  simp only [mS,h1]
  exact ⟨is,rfl,hl,fun ys y1 y2 y3 p hp => k _ _ _ _ (hh ys y1 y2 y3) (Fresh.new hp) ⟨p,_,rfl,rfl,wO ys⟩⟩
end Vl
noncomputable section
namespace Dv
open PySem PySem.Spec PyProof.Rows L2
variable [Dv.Wld]
section
variable {X : Cx} {e : Expr} {p pos : Pos} {en : En}
def abN : cw:=fun ts G Φ => ∃ i : Int,ts = [.int i] /\ i.natAbs.log2 < 1920 /\ Φ (.str (toString i)) G
theorem b_str : CallR X (.type "str") (dz X.K en abN):=CallR.weak call_str_int fun xs H Q ⟨ts,G,Φ,r,g,⟨i,e,hl,q⟩,kk⟩ => by
 subst e
 cases r with
 | cons h1 h2 =>
  cases h2
  cases h1
  exact ⟨i,rfl,hl,kk _ _ _ _ q (.str _) g (Step.refl H G)⟩
end
end Dv
namespace Vl
open PySem PySem.Spec PyProof.Rows L2 Dv
variable [Dv.Wld]
end Vl
namespace Vl
open PySem PySem.Spec PyProof.Rows L2 Dv
variable [Dv.Wld]
section
variable {X : Cx} {m : Str} {apos pos : Pos} {o e : Expr} {es : List Expr} {sp : aI} {dts : List T} {E2 : cW} {la l : LE} {k : Nat} {en : En} {C : Addr}
end
section
variable {X : Cx} {en : En} {l ioc : List Nat} {S0 : S2} {Fr F0 : Gp} {XE : XV} {o e : Expr} {es : List Expr} {va : VE} {vl : VA} {spv : SpV} {dts : List T} {dps : List PV} {n : Nat} {C : Addr} {m : Str}
end
section
variable {P : Program} {w : World} {K : Fr0} {mg : Str -> Option Value} {base : Heap} {x qual : Str} {st : Stmt} {N ps : List Str} {k n : Nat} {spv : SpV} {io : List Nat} {C : Addr}
theorem xV {m : Str} (c : Cls K C) (D : DfM K C m qual st ps) (S : FnScope N ps (defScope st)) (hn : n = ps.length) (hN : n <= N.length) (hb : uM P w K mg base N qual (defScope st) k (defBody st) io spv) : mN P w K mg base (k + 1) C m n io spv :=
 vS c D S (fun ts G Φ ΦE h => h.1.trans hn) fun f => xk hN hb f
end
end Vl
noncomputable section
namespace Dv
open PySem PySem.Spec PyProof.Rows L2
variable [Dv.Wld]
section
variable {X : Cx} {k : Nat} {C : Addr} {sp : aI} {en : En}
def yE (C : Addr) (sp : aI) : bj:=fun t u G Φ => ∃ a b fs gs,t = .ref a /\ u = .ref b /\ G a = some (.ins C fs) /\ G b = some (.ins C gs) /\ sp [t,u] G (fun r G' => ∃ c : Bool,r = .bl c /\ Φ r G') bH
theorem abK (F : KnM X.prog X.w X.K X.mg X.base k C "__eq__" sp []) (hr : Room k X.A) : OpR X (compareOp .Eq) (bG X.K en (yE C sp)):=by
 obtain ⟨f,fd,ps,dvs,ds,F,c,hm,hb,hd,hdt⟩:=F.ex
 intro pins s σ H x y v u Q I rx ry ⟨t,tu,G,Φ,rt,ru,g,⟨a,b,fs,gs,e1,e2,ea,eb,q⟩,kk⟩
 subst e1 e2
 cases rt
 cases ru
 cases rx
 cases ry
 obtain ⟨dx,raw,ha,rf⟩:=g.obj _ _ ea
 obtain ⟨dy,raw2,hb2,rf2⟩:=g.obj _ _ eb
 obtain ⟨mA,J,_⟩:=ins_get I.hok ha
 obtain ⟨mB,J',_⟩:=ins_get I.hok hb2
 obtain ⟨od,J,_⟩:=J.look
 obtain ⟨od',J',_⟩:=J'.look
 obtain ⟨m,hF⟩:=I.fr
 show wpAny (model X.prog X.w) X.A (richCompare .Eq (.ref a) (.ref b)) (EP X pins σ Q) X.xe s
 refine PySem.W.cmp_K (op:=.Eq) (tb:=.ref C) hr.units0 hF I.ok.mod.kin J J'.type (by simp [PySem.W.notFirst]) hm.1 hm.2 ?_
 have hd0 : dvs = []:=by
  have:=hdt H
  cases this
  rfl
 subst hd0
 cases hd
 have hsp : cZ X.K sp [V.ref a,V.ref b] H (fun v H' => ∃ (c : Bool) (G' : Gp),v = .bl c /\ Φ (.bl c) G' /\ HRel X.K en H' G' /\ Step H G H' G') (eO X.K en bH) :=
  ⟨[.ref a,.ref b],G,_,bH,.cons (.ref a) (.cons (.ref b) .nil),g.nil,q,fun t G' v H' ⟨c,e,hΦ⟩ r g' st => by subst e; cases r; exact ⟨c,G',rfl,hΦ,g.back g' st,st⟩,fun _ _ _ _ _ _ z => z.elim⟩
 have e0 : Env0 X.prog X.w X.K X.mg X.base X.A X.stack s H:=I.env0
 have hl:=F.len _ _ _ _ hsp
 have r2 : Vals [V.ref a,V.ref b] [Value.ref a,Value.ref b]:=.cons rfl (.cons rfl .nil)
 refine wpAny_call (codeAny_mono (F.run X.A X.stack s H ⟨[.ref a,.ref b],[]⟩ [.ref a,.ref b] [.ref a,.ref b] _ _ hr e0 (by
  have:=hb s [.ref a,.ref b] I.kIn (by simpa using hl)
  simpa using this) r2 hsp) fun r s' hq => ?_)
 cases r with
 | error e => exact iO pins σ H s e s' I hq
 | ok fl =>
  cases fl with
  | ret w =>
   obtain ⟨z,H',I',rz,c',G',ez,hΦ,g',st⟩:=I.after hq
   subst ez
   cases rz
   exact ⟨.bl c',H',I',rfl,kk _ _ _ _ hΦ (.bl c') g' st⟩
  | next => exact False.elim hq
  | brk => exact False.elim hq
  | cont => exact False.elim hq
end
end Dv
noncomputable section
namespace Dv
open PySem PySem.Spec PyProof.Rows L2
open PySem.W (KeqHitsP)
variable [Dv.Wld]
section
variable {prog : Program} {w : World} {K : Type} [DecidableEq K] {knd : KeyKind prog w K} {A : Around} {s : Shared}
end
inductive DatD (G : Gp) : List (T × T) -> List (Key × PyData) -> Prop
 | nil : DatD G [] []
 | cons {k : Key} {t : T} {d : PyData} {ts : List (T × T)} {ds : List (Key × PyData)} : Dat G t d -> DatD G ts ds -> DatD G ((kT k,t) :: ts) ((k,d) :: ds)
def fw (ds : List (Key × PyData)) (k : Key) : Option PyData:=(ds.find? fun p => decide (p.1 = k)).map (·.2)
def hJ (es : List (Key × PyData)) (p : Key × PyData) : Bool:=match fw es p.1 with
 | some e => PyData.eqv p.2 e
 | none => false
def jh (ds es : List (Key × PyData)) : Bool:=ds.length == es.length && ds.all (hJ es)
inductive DpD (K : Fr0) (H : Hp) : List (Key × V) -> List (Key × PyData) -> Prop
 | nil : DpD K H [] []
 | cons {k : Key} {v : V} {d : PyData} {vs : List (Key × V)} {ds : List (Key × PyData)} : Dp K H v d -> DpD K H vs ds -> DpD K H ((k,v) :: vs) ((k,d) :: ds)
theorem DatD.dp {K : Fr0} {en : En} {H : Hp} {G : Gp} (g : HRel K en H G) : ∀ {ts : List (T × T)} {ds : List (Key × PyData)},DatD G ts ds -> ∀ {vs : List (Key × V)},RelD K H vs ts -> DpD K H vs ds:=by
 intro ts ds h
 induction h with
 | nil => intro vs r; cases r; exact .nil
 | @cons k t d ts ds h _ ih =>
  intro vs r
  generalize e : ((kT k,t) :: ts : List (T × T)) = us at r
  cases r with
  | nil => cases e
  | @cons k' v t' vs' ts' r rs =>
   injection e with e1 e2
   injection e1 with e3 e4
   have e3:=jt e3
   subst e3 e2 e4
   exact .cons (h.dp g r) (ih rs)
theorem DpD.length {K : Fr0} {H : Hp} : ∀ {vs : List (Key × V)} {ds : List (Key × PyData)},DpD K H vs ds -> vs.length = ds.length
 | _,_,.nil => rfl
 | _,_,.cons _ r => by simp [DpD.length r]
theorem DpD.val {K : Fr0} {H : Hp} {k : Key} : ∀ {vs : List (Key × V)} {ds : List (Key × PyData)},DpD K H vs ds -> (valV vs k = none /\ fw ds k = none) \/ ∃ v d,valV vs k = some v /\ fw ds k = some d /\ Dp K H v d
 | _,_,.nil => .inl ⟨rfl,rfl⟩
 | _, _, .cons (k := j) (v := v) (d := d) (vs := vs) (ds := ds) h r => by
  by_cases e : j = k
  . subst e
    exact .inr ⟨v,d,by simp [valV],by simp [fw],h⟩
  . rcases DpD.val (k:=k) r with ⟨h1,h2⟩ | ⟨v',d',h1,h2,h3⟩
    . exact .inl ⟨by simpa [valV,e] using h1,by simpa [fw,e] using h2⟩
    . exact .inr ⟨v',d',by simpa [valV,e] using h1,by simpa [fw,e] using h2,h3⟩
section
variable {X : Cx} {pins : List (Addr × Obj)} {σ : L2.St} {H : Hp} {s : Shared}
theorem adh (I : Inv X pins σ H s) {A : Around} (hu : A.units + 64 < cLine) {ls : List (Key × V)} {vb : List (Key × Value)} {es : List (Key × PyData)} (rb : KV ls vb) (db : DpD X.K H ls es) (se : ∀ p ∈ es,SeqAt.shaped p.2 = true) :
 ∀ {ks : List (Key × V)} {va : List (Key × Value)} {ds : List (Key × PyData)},KV ks va -> DpD X.K H ks ds -> (∀ p ∈ ds,SeqAt.shaped p.2 = true) -> KeqHitsP X.prog X.w A s vb va (ds.all (hJ es)):=by
 intro ks va ds ra da
 induction da generalizing va with
 | nil => intro _; cases ra; exact .nil
 | @cons k v d vs ds h t ih =>
  intro sd
  cases ra with
  | @cons _ q _ qs hq ra =>
  obtain ⟨h1,h2⟩:=hq
  obtain ⟨key,u⟩:=q
  have h1 : k = key:=h1
  subst h1
  rw [List.all_cons]
  have rr:=rb.val k
  rcases db.val (k:=k) with ⟨e1,e2⟩ | ⟨y,e,e1,e2,he⟩
  . have hn : valueAt vb k = none:=by
      rw [e1] at rr
      cases hz : valueAt vb k with
      | none => rfl
      | some z => rw [hz] at rr; exact rr.elim
    have : hJ es (k,d) = false:=by unfold hJ; rw [show fw es (k,d).1 = none from e2]
    rw [this,Bool.false_and]
    exact .miss hn
  . rw [e1] at rr
    obtain ⟨z,hz,rz⟩:=rr.some_of
    have : hJ es (k,d) = PyData.eqv d e:=by unfold hJ; rw [show fw es (k,d).1 = some e from e2]
    rw [this]
    obtain ⟨as,r1⟩:=Dp.reads I d v u h h2
    obtain ⟨bs,r2⟩:=Dp.reads I e y z he rz
    have s1:=sd (k,d) (by simp)
    have s2 : SeqAt.shaped e = true:=by
     unfold fw at e2
     cases hf : es.find? fun p => decide (p.1 = k) with
     | none => rw [hf] at e2; cases e2
     | some p => rw [hf] at e2; cases e2; exact se p (List.mem_of_find?_eq_some hf)
    exact .hit hz (SeqAt.eqAt_reads d e A s u z as bs r1 r2 (SeqAt.canLay_of_shaped s1) (SeqAt.canLay_of_shaped s2) (SeqAt.room_of_shaped s1 hu)).eqP (ih ra fun p hp => sd p (by simp [hp]))
end
section
variable {X : Cx} {en : En}
def ad2 (K : PySem.W.Frag) (neg : Bool) : R2:=fun x y H Q => ∃ a b ks ls ds es,x = .ref a /\ y = .ref b /\ Rd H a (.dK ks) /\ Rd H b (.dK ls) /\ DpD K H ks ds /\ DpD K H ls es /\ (∀ p ∈ ds,SeqAt.shaped p.2 = true) /\ (∀ p ∈ es,SeqAt.shaped p.2 = true) /\ Q (.bl (if neg then !jh ds es else jh ds es)) H
theorem acK (hu : X.A.units + 65 < cLine) : OpR X (compareOp .Eq) (ad2 X.K false):=by
 intro pins s σ H x y v u Q I rx ry h
 obtain ⟨a,b,ks,ls,ds,es,rfl,rfl,ea,eb,pd,pe,sd,se,q⟩:=h
 obtain rfl : v = Value.ref a:=rx
 obtain rfl : u = Value.ref b:=ry
 obtain ⟨_,ya,va,ra,da⟩:=dk_rd I.hok ea
 obtain ⟨_,yb,vb,rb,db⟩:=dk_rd I.hok eb
 refine PySem.W.rcP_dicts (knd:=mixKind X.prog X.w) ya yb da db (by omega) (fun _ => adh I (A:=X.A.in1) (by show X.A.units + 1 + 64 < cLine; omega) rb pe se ra pd sd) _ _ ?_
 refine ⟨.bl _,H,I,?_,q⟩
 show Value.bool _ = Value.bool _
 unfold jh
 rw [<- pd.length,<- pe.length,ra.length,rb.length]
 rfl
def zJ (neg : Bool) : bj:=fun t u G Φ => ∃ a b ks ls ds es,t = .ref a /\ u = .ref b /\ Vl.aG G a = some ks /\ Vl.aG G b = some ls /\ DatD G ks ds /\ DatD G ls es /\ (∀ p ∈ ds,SeqAt.shaped p.2 = true) /\ (∀ p ∈ es,SeqAt.shaped p.2 = true) /\ Φ (.bl (if neg then !jh ds es else jh ds es)) G
theorem nO {K : Fr0} {H : Hp} {G : Gp} (g : HRel K en H G) {a : Addr} {ks : List (T × T)} (h : Vl.aG G a = some ks) : ∃ vs,Rd H a (.dK vs) /\ RelD K H vs ks:=by
 unfold Vl.aG at h
 split at h
 . rename_i e
   cases h
   obtain ⟨vs,h1,h2⟩:=g.obj _ _ e
   exact ⟨vs,.inl h1,h2⟩
 . rename_i e
   cases h
   obtain ⟨h1,h2⟩:=g.obj _ _ e
   exact ⟨_,.inr ⟨_,h1⟩,h2⟩
 . cases h
theorem uQ (hu : X.A.units + 65 < cLine) : OpR X (compareOp .Eq) (bG X.K en (zJ false)):=by
 refine OpR.weak (acK hu) fun x y H Q ⟨t,u,G,Φ,rt,ru,g,⟨a,b,ks,ls,ds,es,e1,e2,ha,hb,pd,pe,sd,se,q⟩,k⟩ => ?_
 subst e1 e2
 cases rt
 cases ru
 obtain ⟨vs,h1,r1⟩:=nO g ha
 obtain ⟨ws,h2,r2⟩:=nO g hb
 exact ⟨a,b,vs,ws,ds,es,rfl,rfl,h1,h2,pd.dp g r1,pe.dp g r2,sd,se,k _ _ _ _ q (.bl _) g (Step.refl H G)⟩
end
end Dv
noncomputable section
namespace Dv
open PySem PySem.Spec PyProof.Rows L2
variable [Dv.Wld]
section
variable {X : Cx} {en : En} {e o : Expr} {la lb : LE} {l : LA} {pos apos cpos p : Pos}
end
end Dv
namespace Vl
open PySem PySem.Spec PyProof.Rows L2 Dv
variable [Dv.Wld]
section
variable {X : Cx} {en : En} {io : Io} {e a b : Expr} {va vb : VE} {pos : Pos}
structure DOk (xs ys : List (Key × PV)) : Prop where
 ok1 : ∀ p ∈ xs,au p.2 = true /\ aJ p.2 <= 64
 ok2 : ∀ p ∈ ys,au p.2 = true /\ aJ p.2 <= 64
 cp : ∀ p ∈ xs,∀ q ∈ ys,p.1 = q.1 -> bh p.2 q.2 = true
noncomputable def dC (xs ys : List (Key × PV)) : Bool:=xs.length == ys.length && xs.all fun p => decide (aV ys p.1 = some p.2)
noncomputable def rP (neg : Bool) : PV -> PV -> (Cell -> Prop) -> Prop
 | .dic xs,.dic ys,k => DOk xs ys /\ k (.fr (.bl (if neg then !dC xs ys else dC xs ys)))
 | _,_,_ => False
def gL (xs : List (Key × PV)) : List (Key × PyData):=xs.map fun p => (p.1,bc p.2)
theorem tf {G : Gp} : ∀ {xs : List (Key × PV)} {ts : List (T × T)},RpD G ts xs -> (∀ p ∈ xs,au p.2 = true /\ aJ p.2 <= 64) -> DatD G ts (gL xs) /\ ∀ p ∈ gL xs,SeqAt.shaped p.2 = true
 | _,_,.nil,_ => ⟨.nil,fun p hp => by cases hp⟩
 | _, _, .cons (k := k) (p := p) (ps := ps) h r, hk => by
  obtain ⟨h1,h2⟩:=tf r fun p hp => hk p (by simp [hp])
  obtain ⟨k1,k2⟩:=hk (k,p) (by simp)
  obtain ⟨e1,e2,e3⟩:=iA k1 h
  refine ⟨.cons e1 h1,fun q hq => ?_⟩
  rcases List.mem_cons.mp hq with rfl | hq
  . show SeqAt.shaped (bc p) = true
    unfold SeqAt.shaped
    rw [e2,e3]
    simpa using k2
  . exact h2 q hq
theorem vG {k : Key} : ∀ xs : List (Key × PV),fw (gL xs) k = (aV xs k).map bc
 | [] => rfl
 | (j,p) :: xs => by
  have ih:=vG (k:=k) xs
  unfold fw gL at ih ⊢
  rw [List.map_cons,List.find?_cons]
  unfold aV
  by_cases e : j = k
  . simp [e]
  . simp only [e,decide_false,if_false]
    exact ih
theorem zV {k : Key} {p : PV} : ∀ {xs : List (Key × PV)},aV xs k = some p -> (k,p) ∈ xs
 | [],h => by cases h
 | (j,q) :: xs,h => by
  unfold aV at h
  split at h
  . rename_i e
    cases h
    subst e
    exact List.mem_cons_self
  . exact List.mem_cons_of_mem _ (zV h)
theorem acg {xs ys : List (Key × PV)} (h : DOk xs ys) : jh (gL xs) (gL ys) = dC xs ys:=by
 unfold jh dC
 congr 1
 . simp [gL]
 . have key : ∀ p ∈ xs,hJ (gL ys) (p.1,bc p.2) = decide (aV ys p.1 = some p.2):=fun p hp => by
     unfold hJ
     rw [show fw (gL ys) (p.1,bc p.2).1 = (aV ys p.1).map bc from vG ys]
     cases e : aV ys p.1 with
     | none => simp
     | some q =>
      have hq:=zV e
      show PyData.eqv (bc p.2) (bc q) = _
      rw [o8 _ _ (h.ok1 p hp).1 (h.ok2 _ hq).1 (h.cp p hp _ hq rfl)]
      by_cases e2 : p.2 = q
      . simp [e2]
      . have : ¬ q = p.2:=fun z => e2 z.symm
        simp [e2,this]
   rw [Bool.eq_iff_iff,List.all_eq_true,List.all_eq_true]
   constructor
   . intro H p hp
     rw [<- key p hp]
     exact H (p.1,bc p.2) (List.mem_map_of_mem hp)
   . intro H q hq
     obtain ⟨p,hp,rfl⟩:=List.mem_map.mp hq
     rw [key p hp]
     exact H p hp
theorem qB {neg : Bool} : j5 (zJ neg) (rP neg):=fun F G t u p q Ψ Φ s rt ru hh k => by
 cases p with
 | dic xs =>
  cases q with
  | dic ys =>
   obtain ⟨a,ts,rfl,h1,r1⟩:=rt
   obtain ⟨b,us,rfl,h2,r2⟩:=ru
   obtain ⟨hd,hh⟩:=hh
   obtain ⟨d1,s1⟩:=tf (r1.sub s) hd.ok1
   obtain ⟨d2,s2⟩:=tf (r2.sub s) hd.ok2
   refine ⟨a,b,ts,us,_,_,rfl,rfl,h1,h2,d1,d2,s1,s2,?_⟩
   rw [acg hd]
   exact k _ _ _ aB hh .no (.bl _)
  | _ => exact hh.elim
 | _ => cases q <;> exact hh.elim
end
end Vl
noncomputable section
namespace Dv
open PySem PySem.Spec PyProof.Rows L2
variable [Dv.Wld]
section
variable {X : Cx} {en : En} {e : Expr} {la : LE} {p pos : Pos} {x : Str}
def qp (K : Fr0) (C : Addr) : cw:=fun ts G Φ => ∃ t,ts = [t,.ref C] /\ ((∃ a D fs b,t = .ref a /\ G a = some (.ins D fs) /\ C8.InsC K D /\ PySem.W.kitOne K (.ref D) (.ref C) = some b /\ Φ (.bl b) G) \/
 ∃ n b,eD t G = some n /\ PySem.W.kitOne K (.type n) (.ref C) = some b /\ Φ (.bl b) G)
theorem acB {C : Addr} : CallR X (.builtin "isinstance") (dz X.K en (qp X.K C)):=by
 intro pins s σ H xs us Q I r ⟨ts,G,Φ,rs,g,⟨t,e,q⟩,kk⟩
 subst e
 cases rs with
 | cons r1 r2 =>
  cases r2 with
  | cons r2 r3 =>
   cases r2
   cases r3
   rcases q with ⟨a,D,fs,b,e,ea,c,hk,q⟩ | ⟨n,b,e,hk,q⟩
   . subst e
     cases r1
     obtain ⟨dx,raw,ha,rf⟩:=g.obj _ _ ea
     exact qh pins s σ H _ us Q I r ⟨_,_,_,_,_,rfl,.own C,.inl (.base (TyOf.ins ha c.cl c.ha c.hn c.htk c.hm)),hk,kk _ _ _ _ q (.bl _) g (Step.refl H G)⟩
   . obtain ⟨h1,h2⟩:=vj g r1 e
     exact qh pins s σ H _ us Q I r ⟨_,_,_,_,_,rfl,.own C,h1,hk,kk _ _ _ _ q (.bl _) g (Step.refl H G)⟩
theorem aeB {C : Addr} {p2 : Pos} (hm : X.mg "isinstance" = none) (hC : X.mg x = some (.ref C)) (ha : E en X e la) (hg : Gl X "isinstance":=by rfl) (hg2 : Gl X x:=by rfl) (hd : (x == ("__debug__" : Str)) = false:=by decide)
 (he : starEach [e,.Name x p2] X.env = (false,eval e X.env) :: starEach [.Name x p2] X.env:=by rfl) (he2 : starEach [.Name x p2] X.env = (false,eval (.Name x p2) X.env) :: starEach [] X.env:=by rfl) (hpl : (backTo pos (starEach [.Name x p2] X.env)).any (·.1) = false:=by rfl) :
    E en X (.Call (.Name "isinstance" p) [e,.Name x p2] [] pos) (cq (qp X.K C) (dD la (dD (gz (.ref C)) fe))) :=
 mM acB hg hm rfl (ea_cons ha (ea_cons (rB (t:=.ref C) (v:=.ref C) (fun _ => .ref C) hg2 hC rfl hd) ea_nil he2) he) (he:=he) (hpl:=hpl)
end
end Dv
namespace Vl
open PySem PySem.Spec PyProof.Rows L2 Dv
variable [Dv.Wld]
section
variable {X : Cx} {en : En} {io : Io} {e a b : Expr} {va vb : VE} {C : Addr} {spv : SpV}
def qD (K : Fr0) (C : Addr) (va : VE) : VE:=fun σ Ψ => va σ fun r σ1 => match rd σ1 r with
 | some (.ins D _) => C8.InsC K D /\ ∃ b,PySem.W.kitOne K (.ref D) (.ref C) = some b /\ Ψ (.v (.fr (.bl b))) σ1
 | some p => (match tyP p with
  | some n => ∃ b,PySem.W.kitOne K (.type n) (.ref C) = some b /\ Ψ (.v (.fr (.bl b))) σ1
  | none => False)
 | none => False
theorem aaT (he : ∀ la,E en X a la -> E en X e (cq (qp X.K C) (dD la (dD (gz (.ref C)) fe)))) (ha : Ev en X io a va) : Ev en X io e (qD X.K C va):=bS (he _ ha) fun S G Φ ⟨w,F,own,σ,Ψ,g,q,k⟩ => by
 refine ⟨w,F,own,σ,_,g,q,fun r σ1 F1 own1 G1 t q1 x1 g1 r1 => ?_⟩
 split at q1
 . rename_i D fs e1
   obtain ⟨a,ts,rfl,h1,_⟩:=g1.rdV r1 e1
   obtain ⟨c,b,hk,q2⟩:=q1
   exact ⟨_,rfl,.inl ⟨a,D,ts,b,rfl,h1,c,hk,k _ _ _ _ _ _ q2 x1 g1 ⟨aB,.bl _,.nil⟩⟩⟩
 . rename_i p hp e1
   split at q1
   . rename_i n e2
     obtain ⟨b,hk,q2⟩:=q1
     exact ⟨_,rfl,.inr ⟨n,b,qP (g1.rdV r1 e1) e2,hk,k _ _ _ _ _ _ q2 x1 g1 ⟨aB,.bl _,.nil⟩⟩⟩
   . exact q1.elim
 . exact q1.elim
end
end Vl
noncomputable section
namespace Dv
open PySem PySem.Spec PyProof.Rows L2
variable [Dv.Wld]
section
variable {prog : Program} {w : World} {A : Around} {E : Value -> Shared -> Prop} {s : Shared} {r d : Addr} {n : Nat} {T0 : String} {P : Nat -> Value -> Prop} {OK : Heap -> Prop}
theorem abA {Q : List Value -> Shared -> Prop} (K : PySem.W.KdlSrc prog w T0 r d n P OK) (hh : A.handled = none) (hok : OK s.heap) (hn : n <= sizeLine)
 (hQ : ∀ (h' : Heap) (tk : Nat) (acc : Array Value),(∀ b o,s.heap.get? b = some o -> h'.get? b = some o) -> ItemsOf P acc n -> Q acc.toList { s with heap:=h',toks:=tk }) :
    wpAny (model prog w) A (collect (.ref r)) Q E s:=by
 unfold collect
 refine wpAny_bind (wpAny_runValue (codeAny_builtin F.entry_proto_collect ?_))
 rw [Around.under_plainId F.plain_proto_collect _]
 show wpAny _ A.in1 (newList [] >>= fun l => again (.builtin "list.__iadd__" ⟨[l,.ref r],[]⟩)) _ _ s
 refine wpAny_bind (wpAny_newObj_type ?_)
 refine wpAny_pure ⟨plainId_quiet F.plain_list_iadd _,codeAny_builtin F.entry_list_iadd ?_⟩
 rw [Around.under_plainId F.plain_list_iadd _]
 show wpAny _ A.in1 (Builtin.List.listExtendWith (.ref s.heap.objs.size) (.ref r) (.ref s.heap.objs.size)) _ _ _
 have hS : (s.heap.push { cls:=.type "list",data:=.seq ([] : List Value).toArray }).get? s.heap.objs.size = some { cls:=.type "list",data:=.seq #[] 0 }:=Heap.get?_push_size _ rfl
 have hlt:=K.there _ hok
 refine wpAny_mono (PySem.W.kdl_extend (A:=A) (R:=fun rr s' => rr = .ok (.ret (.ref s.heap.objs.size)) /\ ∃ (h' : Heap) (tk : Nat) (acc : Array Value) (c' : Nat),s' = { s with heap:=h',toks:=tk } /\
     (∀ b o,s.heap.get? b = some o -> h'.get? b = some o) /\ h'.get? s.heap.objs.size = some { cls:=.type "list",dict:=none,data:=.seq acc c',slots:=#[] } /\ ItemsOf P acc n)
  (s:={ s with heap:=s.heap.push { cls:=.type "list",data:=.seq ([] : List Value).toArray } }) K hh (K.keep _ _ hok fun b _ o e => Heap.get?_push_of_some _ e) s.heap.objs.size (Nat.ne_of_gt hlt.1) (Nat.ne_of_gt hlt.2) _ 0 hS
  (fun h' tk acc c' hk e hi => ⟨rfl,h',tk,acc,c',rfl,fun b o q => hk b o (Nat.ne_of_lt (Heap.lt_size q)) (Heap.get?_push_of_some _ q),e,hi⟩) hn) (fun fin s' h => ?_) (fun e s' h => ?_)
 . cases fin with
   | done f =>
    obtain ⟨e,h',tk,acc,c',rfl,hk,hS',hi⟩:=h
    cases e
    show wpAny _ A (load s.heap.objs.size >>= _) _ _ _
    exact wpAny_bind (wpAny_load hS' (wpAny_pure (hQ h' tk acc hk hi)))
   | again c' =>
    refine ⟨h.1,codeAny_mono h.2 fun rr s'' hr' => ?_⟩
    obtain ⟨rfl,h',tk,acc,c',rfl,hk,hS',hi⟩:=hr'
    show wpAny _ A (load s.heap.objs.size >>= _) _ _ _
    exact wpAny_bind (wpAny_load hS' (wpAny_pure (hQ h' tk acc hk hi)))
 . exact absurd h.1 (by simp)
theorem abp {Q₁ : Value -> Shared -> Prop} (K : PySem.W.KdlSrc prog w "dict" r d n P OK) (hTI : s.TypeIs (.ref r) "dict") (hh : A.handled = none) (hok : OK s.heap) (hn : n <= sizeLine)
 (h : ∀ (h' : Heap) (tk : Nat) (acc : Array Value),(∀ b o,s.heap.get? b = some o -> h'.get? b = some o) -> ItemsOf P acc n ->
     Q₁ (.ref h'.objs.size) { s with heap:=h'.push { cls:=.type "tuple",data:=.seq acc },toks:=tk }) :
    codeAny (model prog w) A (.call (.builtin "tuple.__new__") ⟨[.type "tuple",.ref r],[]⟩) (wants Q₁ E) s:=by
 refine codeAny_of_tree ?_
 show wpAny _ A.in1 (do checkBuiltinCall "tuple.__new__" ⟨[.type "tuple",.ref r],[]⟩; again (.builtin "tuple.__new__" ⟨[.type "tuple",.ref r],[]⟩)) _ _ s
 refine wpAny_bind (wpAny_of_eq (F.newCall_tuple_1 _) (wpAny_pure ⟨plainId_quiet F.plain_tuple_new _,codeAny_builtin F.entry_tuple_new ?_⟩))
 rw [Around.under_plainId F.plain_tuple_new _]
 have hsub:=sub_tuple_self
 have hinit:=init_tuple_lookup
 have hmh:=madeHere_tuple
 have hh1 : A.in1.handled = none:=hh
 wp_walk using wpAny_typeOf hTI,abA (A:=A.in1) K hh1 hok hn
 intro h' tk acc hk hacc
 show wpAny _ _ (Builtin.Tuple.tupleExact acc.toList.toArray >>= fun v => ret v) _ _ _
 unfold Builtin.Tuple.tupleExact
 refine wpAny_bind (wpAny_newObj_type ?_ (by show acc.toList.toArray.size <= sizeLine; simp only [Array.toArray_toList]; rw [hacc.1]; exact hn))
 refine wpAny_pure ?_
 have e : acc.toList.toArray = acc:=by simp
 rw [e]
 exact h h' tk acc hk hacc
theorem aev {Q : Value -> Shared -> Prop} (K : PySem.W.KdlSrc prog w "dict" r d n P OK) (hTI : s.TypeIs (.ref r) "dict") (hh : A.handled = none) (hok : OK s.heap) (hn : n <= sizeLine)
 (hQ : ∀ (h' : Heap) (tk : Nat) (acc : Array Value),(∀ b o,s.heap.get? b = some o -> h'.get? b = some o) -> ItemsOf P acc n ->
     Q (.ref h'.objs.size) { s with heap:=h'.push { cls:=.type "tuple",data:=.seq acc },toks:=tk }) :
    wpAny (model prog w) A (call (.type "tuple") [.ref r]) Q E s:=by
 refine callType_codes (Q₁:=fun obj s₁ => s₁.TypeIs obj "tuple" /\ Q obj s₁) F.called_tuple (F.typeCall_tuple_1 _) F.entry_object_init
  (abp (A:=A.in1) K hTI hh hok hn fun h' tk acc hk hacc => ⟨⟨_,Heap.get?_push_size _ rfl,rfl⟩,hQ h' tk acc hk hacc⟩) fun obj s₁ h₁ => ?_
 exact ⟨h₁.1,F.args_object_init_2 obj _,object_init_meets F.called_tuple.init.lookup F.called_tuple.made (by decide) prog w A.in1 _ s₁ ⟨h₁.1,rfl,h₁.2⟩⟩
end
section
variable {X : Cx} {en : En} {l : LA} {e : Expr} {p pos : Pos}
theorem ae3 (hcalm : X.calm = true) : CallR X (.type "tuple") (fun xs H Q => ∃ (a : Addr) (kvs : List (Key × V)),xs = [.ref a] /\ Rd H a (.dK kvs) /\ ∀ p,H p = none -> Q (.ref p) (L2.upd H p (.tup (kvs.map fun kv => kV kv.1)))):=by
 intro pins s σ H xs us Q I r q
 obtain ⟨a,kvs,ex,hd,q⟩:=q
 subst ex
 obtain ⟨u,eu,rx⟩:=vals1 r
 subst eu
 cases rx
 obtain ⟨z,lo,vs,rel,dd⟩:=dk_rd I.hok hd
 obtain ⟨ep,hat⟩:=dd.dictAt
 have ek : (kvs.map fun kv => kV kv.1) = vs.map fun p => kV p.1:=by
  have e:=congrArg (List.map kV) rel.keys
  rw [List.map_map,List.map_map] at e
  exact e
 refine aev (PySem.W.kdl_dict (knd:=mixKind X.prog X.w) (kvs:=vs) (ep:=ep) lo) dd.typeIs (I.ok.hd hcalm) hat (by rw [<- rel.length]; exact z) fun h' tk acc hk hacc => ?_
 have hv : Vals (vs.map fun p => kV p.1) acc.toList:=keys_at (by rw [Array.length_toList]; exact hacc.1) fun j v e => hacc.2 j v (by rw [<- Array.getElem?_toList]; exact e)
 have I2 : Inv X pins σ H { s with heap:=h',toks:=tk }:=I.kept hk
 refine ⟨.ref h'.objs.size,L2.upd H h'.objs.size (.tup (kvs.map fun kv => kV kv.1)),I2.laid (t':=tk) (fun c o e => Heap.get?_push_of_some _ e) (Nat.le_refl _)
  (show ObjOk X.prog X.w _ _ _ (.tup (kvs.map fun kv => kV kv.1)) from ⟨by rw [List.length_map]; exact z,acc.toList,by rw [ek]; exact hv,by rw [Array.toArray_toList]; exact IsTup.new _ _⟩),rfl,q _ (I2.hok.fresh (Nat.le_refl _))⟩
theorem pH {K : Fr0} {H : Hp} : ∀ {vs : List (Key × V)} {ts : List (T × T)},RelD K H vs ts -> RelL K H (vs.map fun kv => kV kv.1) (ts.map (·.1))
 | _,_,.nil => .nil
 | _,_,.cons (k:=.inl i) _ r => .cons (.int i) (pH r)
 | _,_,.cons (k:=.inr x) _ r => .cons (.str x) (pH r)
def tN : cw:=fun ts G Φ => ∃ a ks,ts = [.ref a] /\ Vl.aG G a = some ks /\ Φ (.tup (ks.map (·.1))) G
def zk : cw:=fun ts G Φ => ∃ a ks,ts = [.ref a] /\ Vl.aG G a = some ks /\ ∀ p,G p = none -> Φ (.ref p) (gup G p (.lst (ks.map (·.1))))
theorem ad8 (hc : X.calm = true) : CallR X (.type "tuple") (dz X.K en tN):=CallR.weak (ae3 hc) fun xs H Q ⟨ts,G,Φ,r,g,⟨a,ks,e,ha,q⟩,kk⟩ => by
 subst e
 cases r with
 | cons h1 h2 =>
  cases h2
  cases h1
  obtain ⟨vs,hd,rd⟩:=nO g ha
  refine ⟨a,vs,rfl,hd,fun p hp => ?_⟩
  obtain ⟨t1,g1,s1⟩:=tup_laid g hp (pH rd)
  exact kk _ _ _ _ q t1 g1 s1
theorem abn (hc : X.calm = true) : CallR X (.type "list") (dz X.K en zk):=CallR.weak (call_listD hc) fun xs H Q ⟨ts,G,Φ,r,g,⟨a,ks,e,ha,q⟩,kk⟩ => by
 subst e
 cases r with
 | cons h1 h2 =>
  cases h2
  cases h1
  obtain ⟨vs,hd,rd⟩:=nO g ha
  refine ⟨a,vs,rfl,hd,fun p hp => ?_⟩
  obtain ⟨g2,s2⟩:=dJ g hp (pH rd)
  exact kk _ _ _ _ (q p (g.fresh hp)) (.ref p) g2 s2
theorem aac (hm : X.mg "tuple" = none) (ha : Ea en X [e] l) (hg : Gl X "tuple":=by rfl) (hc : X.calm = true:=by rfl) (he : starEach [e] X.env = (false,eval e X.env) :: starEach [] X.env:=by rfl) : E en X (.Call (.Name "tuple" p) [e] [] pos) (cq tN l) :=
 kI (ad8 hc) hg hm rfl ha (he:=he)
theorem ac9 (hm : X.mg "list" = none) (ha : Ea en X [e] l) (hg : Gl X "list":=by rfl) (hc : X.calm = true:=by rfl) (he : starEach [e] X.env = (false,eval e X.env) :: starEach [] X.env:=by rfl) : E en X (.Call (.Name "list" p) [e] [] pos) (cq zk l) :=
 kI (abn hc) hg hm rfl ha (he:=he)
end
end Dv
namespace Vl
open PySem PySem.Spec PyProof.Rows L2 Dv
variable [Dv.Wld]
def uf : List PV -> (Cell -> Prop) -> Prop
 | [.dic kvs],k => k (.fr (.tup (kvs.map fun kv => kP kv.1)))
 | _,_ => False
theorem aab : fU tN uf:=fun F G ts ps Ψ Φ s r hh k => by
 match ps,hh with
 | [.dic kvs],hh => obtain ⟨t,rfl,a,us,rfl,h1,r'⟩:=r.one; exact ⟨a,us,rfl,h1,k _ _ _ aB hh .no (.tup r'.keysL)⟩
end Vl
noncomputable section
namespace Dv
open PySem PySem.Spec PyProof.Rows L2
variable [Dv.Wld]
section
variable {X : Cx} {pins : List (Addr × Obj)} {σ : L2.St} {H : Hp} {s : Shared} {en : En} {G : Gp}
end
section
variable {X : Cx} {e : Expr} {pos p : Pos} {en : En} {l : LA}
def ae5 : cw:=fun ts G Φ => (∃ i : Int,ts = [.int i] /\ Φ (.bl (i != 0)) G) \/ ∃ b,ts = [.bl b] /\ Φ (.bl b) G
theorem b_bool : CallR X (.type "bool") (dz X.K en ae5):=CallR.weak call_bool1 fun xs H Q ⟨ts,G,Φ,r,g,h,kk⟩ => by
 rcases h with ⟨i,e,q⟩ | ⟨i,e,q⟩
 all_goals
  subst e
  cases r with
  | cons h1 h2 =>
   cases h2
   cases h1
   first
    | exact .inl ⟨i,rfl,kk _ _ _ _ q (.bl _) g (Step.refl H G)⟩
    | exact .inr ⟨i,rfl,kk _ _ _ _ q (.bl _) g (Step.refl H G)⟩
end
section
variable {X : Cx} {en : En}
end
end Dv
namespace Vl
open PySem PySem.Spec PyProof.Rows L2 Dv
variable [Dv.Wld]
section
variable {en : En} {X : Cx} {io : Io} {e : Expr} {va : VE}
end
end Vl
noncomputable section
namespace Dv
open PySem PySem.Spec PyProof.Rows L2
open AutoSeq1 (wpAny_loadPart')
variable [Dv.Wld]
abbrev oS (p : Addr) : Obj:={ cls:=.type "enumerate",data:=.fields #[.none,.bool false,.ref p,rawInt 0,.none,.none] }
abbrev kK (t : Addr) : Obj:={ cls:=.type "tuple_iterator",data:=.fields #[.ref t,.int 0 0] }
theorem adc (t : Addr) (its : Array Value) :
    Meets (Builtin.«enumerate.__new__» ⟨[.type "enumerate",.ref t],[]⟩) (fun _ R s => s.heap.IsTuple t its /\ R (.ok (.ret (.ref (s.heap.push (kK t)).objs.size))) { s with heap:=(s.heap.push (kK t)).push (oS s.heap.objs.size) }) :=
 .of_wp fun pr wd A R s hh => by
  obtain ⟨hp,ge,dd,tk,os⟩:=s
  obtain ⟨h1,hq⟩:=hh
  have sub1:=sub_enumerate
  have itr : ∀ {A' : Around} {E' : Value -> Shared -> Prop} {Q' : Value -> Shared -> Prop},Q' (.ref hp.objs.size) ⟨hp.push (kK t),ge,dd,tk,os⟩ -> wpAny (model pr wd) A' (pyIter (.ref t)) Q' E' ⟨hp,ge,dd,tk,os⟩ :=
   fun q => wpAny_pyIter_tuple (s:=⟨hp,ge,dd,tk,os⟩) h1 q
  wp_walk using itr
  refine wpAny_stack_any fun stk => wpAny_pure ?_
  split
  . rename_i c _ _ _ _ _
    cases (c == Value.type "enumerate") <;> (wp_walk using itr; exact ⟨_,rfl,hq⟩)
  . wp_walk using itr
    exact ⟨_,rfl,hq⟩
section
variable {prog : Program} {w : World} {A : Around} {E : Value -> Shared -> Prop} {s : Shared}
theorem adw {t : Addr} {its : Array Value} {Q : Value -> Shared -> Prop} (ht : s.heap.IsTuple t its)
 (h : ∀ h',IsEnum h' (s.heap.objs.size + 1) s.heap.objs.size 0 .none -> h'.IsTupleIter s.heap.objs.size t 0 -> h'.objs.size = s.heap.objs.size + 2 -> (∀ b o,s.heap.get? b = some o -> h'.get? b = some o) -> Q (.ref (s.heap.objs.size + 1)) { s with heap:=h' }) :
    wpAny (model prog w) A (call (.type "enumerate") [.ref t]) Q E s:=by
 have sz : (s.heap.push (kK t)).objs.size = s.heap.objs.size + 1:=Heap.size_push ..
 refine callType_new F.called_enumerate (by decide) (F.typeCall_enumerate_1 _) (F.newCall_enumerate_1 _) (fun ob => F.args_object_init_2 ob _) F.entry_enumerate_new (adc t its) ⟨ht,?_⟩
 show _ /\ _
 rw [sz]
 have e1 : ((s.heap.push (kK t)).push (oS s.heap.objs.size)).get? (s.heap.objs.size + 1) = some (oS s.heap.objs.size):=by
  have:=Heap.get?_push_size (s.heap.push (kK t)) (o:=oS s.heap.objs.size) rfl
  rwa [sz] at this
 exact ⟨⟨_,e1,rfl⟩,h _ e1 ⟨_,Heap.get?_push_of_some _ (Heap.get?_push_size _ rfl),rfl,rfl⟩ (by rw [Heap.size_push,sz]) fun b o x => Heap.get?_push_of_some _ (Heap.get?_push_of_some _ x)⟩
end
def rX (K : Fr0) (a : Addr) : It :=
 ⟨fun i H => ∃ (xs : List V) (x : V),SqT K H a xs /\ xs[i]? = some x,fun i H v H' => ∃ T x,v = .ref T /\ H T = none /\ H' = L2.upd H T (.tup [.int (i : Nat),x]) /\ ∀ xs,SqT K H a xs -> xs[i]? = some x,fun i H => ∃ xs : List V,SqT K H a xs /\ xs.length <= i⟩
theorem xW {h : Heap} {a e it : Addr} {its : Array Value} {i : Nat} {j : Int} {old : Value} (ht : h.IsTuple a its) (hi : h.IsTupleIter it a i) (he : IsEnum h e it j old) : a ≠ it /\ e ≠ a:=by
 obtain ⟨o,ho,hc,_⟩:=ht
 refine ⟨fun z => ?_,fun z => ?_⟩
 . subst z
   obtain ⟨o2,ho2,hc2,_⟩:=hi
   rw [ho] at ho2
   cases ho2
   rw [hc] at hc2
   injection hc2 with z
   exact absurd z (by decide)
 . subst z
   have he' : h.get? e = _:=he
   rw [ho] at he'
   cases he'
   injection hc with z
   exact absurd z (by decide)
theorem ended {prog : Program} {w : World} {A : Around} {it a : Addr} {i : Nat} {its : Array Value} (hh : A.handled = none) (hx : its[i]? = none) :
    Draws prog w A it [it,a] i (fun _ _ => True) (fun k h => k = i /\ h.IsTupleIter it a i /\ h.IsTuple a its) where
 live:=fun _ _ st => by
  obtain ⟨o,ho,_⟩:=st.2.1
  exact ⟨o,ho⟩
 frame:=fun _ _ _ st hk => ⟨st.1,st.2.1.at fun o e => hk it (by simp) o e,st.2.2.at fun o e => hk a (by simp) o e⟩
 item:=fun j s Q E hj st _ => by
  have:=st.1
  omega
 done:=fun s Q E st hE => wpAny_nextOf_tuple_end hh st.2.1 st.2.2 hx hE
theorem afa {P : Program} {w : World} {K : Fr0} {elts : List Expr} {kk : Nat} {tpos : Pos} (a e it : Addr) :
    Turn P w K (.Tuple elts kk tpos) (rX K a) [e,it] e (fun i h => (∃ old,IsEnum h e it ((i : Nat) : Int) old) /\ h.IsTupleIter it a i /\ e ≠ it) where
 mem:=by simp
 obj:=fun i h st b hb => by
  obtain ⟨⟨old,he⟩,⟨o,ho,hc,hd⟩,_⟩:=st
  rcases (show b = e \/ b = it by simpa using hb) with z | z
  . subst z; exact ⟨_,he,fun v q => nomatch q⟩
  . subst z; exact ⟨o,ho,fun v q => by rw [hd] at q; cases q⟩
 keep:=fun i h h' st k => by
  obtain ⟨⟨old,he⟩,hi,hne⟩:=st
  exact ⟨⟨old,k e (by simp) _ he⟩,hi.at fun o q => k it (by simp) o q,hne⟩
 item := by
  intro X hP hw hK hc i pins s σ H E I hf st hg
  subst hP hw hK
  obtain ⟨⟨old,he⟩,hit,hne⟩:=st
  obtain ⟨xs,x,hq,hx⟩:=hg
  obtain ⟨its,rv,p,hz⟩:=I.tuple hq
  obtain ⟨u,hu,ru⟩:=rv.get hx
  obtain ⟨n1,n2⟩:=xW p hit he
  have hel:=Heap.lt_size he
  have hil : it < s.heap.objs.size:=by obtain ⟨_,q,_⟩:=hit; exact Heap.lt_size q
  have hlt : i < its.toArray.size:=by
   rw [List.size_toArray]
   exact (List.getElem?_eq_some_iff.mp hu).1
  refine wpAny_pyNext_enum_itemD (Draws.tuple (A:=X.A.in1) (I.ok.hd hc) it a n1 its.toArray) he ⟨hit,p⟩ hlt hne (by simp [hne,n2]) fun x' h' tk hP ho hst hT hsz hk => ?_
  have ex : x' = u:=by
   have : its.toArray[i]? = some x':=hP
   rw [List.getElem?_toArray,hu] at this
   exact (Option.some.inj this).symm
  subst ex
  refine ⟨_,rfl,wpAny_letOwnedTupleGo_enum (s:={ s with heap:=h',toks:=tk + 1 }) ho fun h2 he2 sb => ?_⟩
  have hT2 : h2.get? s.heap.objs.size = some { cls:=.type "tuple",data:=.seq #[.int i tk,x'] }:=(sb.2 _ (Nat.ne_of_gt hel)).trans hT
  have new : ObjOk X.prog X.w (L2.upd H s.heap.objs.size (.tup [.int (i : Nat),x])) h2 s.heap.objs.size (.tup [.int (i : Nat),x]):=by
   refine ⟨by show 2 <= sizeLine; decide,[.int i tk,x'],.cons ⟨_,rfl⟩ (.cons ru .nil),⟨_,hT2,rfl,_,rfl⟩⟩
  have keep : ∀ b ob,b ∉ [e,it] -> s.heap.get? b = some ob -> h2.get? b = some ob:=fun b ob hb q => by
   have z1 : b ≠ e:=fun z => hb (by simp [z])
   have z2 : b ≠ it:=fun z => hb (by simp [z])
   exact (sb.2 b z1).trans (hk b ob z1 z2 q)
  have I1 : Inv X pins σ (L2.upd H s.heap.objs.size (.tup [.int (i : Nat),x])) { s with heap:=h2,toks:=tk + 1 }:=I.turnedNew (ch:=[e,it]) keep hf (Nat.le_refl _) new
  refine ⟨.ref s.heap.objs.size,_,I1,rfl,⟨_,x,rfl,I.hok.fresh (Nat.le_refl _),rfl,fun ys hy => by rw [I.tuple_inj hy hq]; exact hx⟩,⟨⟨x',?_⟩,hst.1.at fun o q => (sb.2 it (Ne.symm hne)).trans q,hne⟩,fun b hb => ?_⟩
  . have e1 : ((i + 1 : Nat) : Int) = (i : Int) + 1:=by omega
    rw [e1]; exact he2
  . have hb' : b < s.heap.objs.size:=by
      rcases (show b = e \/ b = it by simpa using hb) with z | z <;> (rw [z]; assumption)
    rw [L2.upd_ne (Nat.ne_of_lt hb')]
    exact (hf b hb).1
 done:=by
  intro X hP hw hK hc i pins s σ H E I hf st hg
  subst hP hw hK
  obtain ⟨⟨old,he⟩,hit,hne⟩:=st
  obtain ⟨xs,hq,hx⟩:=hg
  obtain ⟨its,rv,p,hz⟩:=I.tuple hq
  obtain ⟨n1,n2⟩:=xW p hit he
  obtain ⟨f0,f1,f2,f3,f4,f5⟩:=hf it (by simp)
  have hl:=rv.length
  have hnone : its.toArray[i]? = none:=by rw [List.getElem?_toArray,List.getElem?_eq_none_iff]; omega
  exact wpAny_pyNext_enum_endD (ended (prog:=X.prog) (w:=X.w) (A:=X.A.in1) (I.ok.hd hc) hnone) he ⟨rfl,hit,p⟩ fun h' eb => ⟨rfl,I.turned (t':=s.toks) (fun b o hb q => eb b o hb q) f0 f1 f3 f4 f5⟩
 self:=fun A i s Q E st h => by
  obtain ⟨⟨_,he⟩,_⟩:=st
  exact wpAny_pyIter_enum he h
def aeR (K : Fr0) (ta : TA) : TI:=fun σ H R => ta σ H fun vs H1 => ∃ a xs,vs = [.ref a] /\ SqT K H1 a xs /\ R (rX K a) H1
theorem acY {X : Cx} {e : Expr} {ta : TA} {p pos tpos : Pos} {elts : List Expr} {kk : Nat} (hg : Gl X "enumerate") (hm : X.mg "enumerate" = none) (ha : PA X [e] ta) (hs : starEach [e] X.env = [(false,eval e X.env)]:=by rfl) :
    PI X (.Tuple elts kk tpos) (.Call (.Name "enumerate" p) [e] [] pos) (aeR X.K ta):=by
 refine ⟨fun pins s σ H R I h => ?_⟩
 refine Call_ (ld_blt I hg hm boot_enumerate (PyProof.Rows.callWith_type1 (thn (ha.run pos pins s σ H _ I h) fun us s1 ⟨vs,H1,I1,r1,q1⟩ => ?_) hs rfl))
 obtain ⟨a,xs,rfl,hq,q⟩:=q1
 rw [Vals.ref1 r1]
 obtain ⟨its,rv,p',hz⟩:=I1.tuple hq
 refine adw p' fun h' he hit hsz hk => wpAny_pyIter_enum he ?_
 have I2 : Inv X pins σ H1 { s1 with heap:=h' }:=I1.kept (t':=s1.toks) hk
 refine ⟨s1.heap.objs.size + 1,[s1.heap.objs.size + 1,s1.heap.objs.size],_,_,H1,rfl,I2,afa a (s1.heap.objs.size + 1) s1.heap.objs.size,⟨⟨.none,he⟩,hit,Nat.succ_ne_self _⟩,fun b hb => ?_,q⟩
 have hle : s1.heap.objs.size <= b:=by
  rcases (show b = s1.heap.objs.size + 1 \/ b = s1.heap.objs.size by simpa using hb) with z | z <;> (rw [z]; omega)
 exact I1.fpOk hle (I1.hok.fresh hle)
section
variable {X : Cx} {en : En} {e : Expr} {l : LA} {p pos tpos : Pos} {elts : List Expr} {kk : Nat}
def qU (l : LA) : LI:=fun S G Ψ => l S G fun ts G1 => match ts with
 | [.tup xs] => Ψ (fq xs) (fun _ => True) G1
 | _ => False
theorem aci {K : Fr0} {en : En} {a : Addr} {vs : List V} {xs : List T} : ItOk K en (rX K a) (fq xs) (fun _ => True) (fun H => SqT K H a vs /\ RelL K H vs xs) where
 stab:=fun H H' st h => ⟨st.tup h.1,h.2.stay st⟩
 go:=fun i H G g _ kh hi => by
  obtain ⟨h1,r⟩:=kh
  have hi' : i < xs.length:=by simpa [fq] using hi
  obtain ⟨v,h2,_⟩:=r.get (List.getElem?_eq_getElem hi')
  exact ⟨vs,v,h1,h2⟩
 stop:=fun i H G g _ kh hi => ⟨vs,kh.1,by rw [kh.2.length]; simpa [fq] using hi⟩
 yld:=fun i H G x H' g _ kh y hi => by
  obtain ⟨p,v,ex,hp,eH,y⟩:=y
  subst ex eH
  obtain ⟨t,h2,h3⟩:=kh.2.getV (y vs kh.1)
  obtain ⟨r2,g2,s2⟩:=tup_laid g hp (.cons (.int (i : Int)) (.cons h3 .nil))
  refine ⟨_,?_,r2,g2,s2⟩
  unfold fq
  rw [List.getElem?_map,List.getElem?_zipIdx,h2]
  simp
theorem aa7 (hg : Gl X "enumerate") (hm : X.mg "enumerate" = none) (ha : Ea en X [e] l) (hs : starEach [e] X.env = [(false,eval e X.env)]:=by rfl) : Ei en X (.Tuple elts kk tpos) (.Call (.Name "enumerate" p) [e] [] pos) (qU l):=by
 refine PI.weak (acY hg hm ha hs) fun σ H R ⟨S,G,Ψ,s,g,q,k⟩ => ?_
 refine ⟨S,G,_,s,g,q,fun ts G1 vs H1 q1 r1 g1 s1 => ?_⟩
 unfold qU at q
 split at q1
 . cases r1 with
   | cons h1 h2 =>
    cases h2
    cases h1 with
    | @tup p1 vs ts hs1 rs1 => exact ⟨p1,vs,rfl,hs1,k _ _ _ _ _ _ q1 g1 s1 aci ⟨hs1,rs1⟩⟩
 . exact q1.elim
end
end Dv
namespace Vl
open PySem L2 Dv
variable [Dv.Wld]
section
variable {en : En} {X : Cx} {io : Io} {tg iter : Expr} {es : List Expr}
def uD (va : VA) : VI:=fun σ Ψ => va σ fun rs σ1 => match fC σ1 rs with
 | some ([.tup xs],σ2) => Ψ (pP xs) σ2
 | _ => False
theorem abi {va : VA} (he : ∀ l,Ea en X es l -> Ei en X tg iter (qU l)) (h : dM en X io es va) : gW en X io tg iter (uD va):=my (he _ h) fun S G Φ ⟨w,F,own,σ,Ψ,g,q,k⟩ => by
 refine ⟨w,F,own,σ,_,g,q,fun rs σ1 F1 own1 G1 ts q1 x1 g1 r1 => ?_⟩
 split at q1
 . rename_i xs σ2 e
   obtain ⟨F2,own2,g2,x2,r⟩:=iZ g1 r1 e
   cases r with
   | cons h1 h2 =>
    cases h2
    cases h1 with
    | tup r => exact k _ _ _ _ _ _ _ q1 (x1.trans x2) g2 (yG r) fun G'' s => trivial
 . exact q1.elim
end
end Vl
noncomputable section
namespace Dv
open PySem PySem.Spec PyProof.Rows L2
variable [Dv.Wld]
section
variable {X : Cx} {e : Expr} {p pos : Pos} {en : En}
theorem RelL.ints {K : Fr0} {H : Hp} : ∀ {vs : List V} {ns : List Int},RelL K H vs (ns.map T.int) -> vs = ns.map V.int
 | [],[],_ => rfl
 | v :: vs,n :: ns,h => by
  rw [List.map_cons] at h
  cases h with
  | cons h1 h2 =>
   cases h1
   rw [List.map_cons,RelL.ints h2]
 | [],_ :: _,h => by rw [List.map_cons] at h; cases h
 | _ :: _,[],h => by cases h
end
end Dv
namespace Vl
open PySem PySem.Spec PyProof.Rows L2 Dv
variable [Dv.Wld]
def oD : List PV -> Option (List Int)
 | [] => some []
 | .int i :: ps => (oD ps).map (i :: ·)
 | _ => none
theorem RpL.ints {F : Gp} : ∀ {ps : List PV} {ts : List T} {ns : List Int},RpL F ts ps -> oD ps = some ns -> ts = ns.map T.int
 | [],_,_,.nil,h => by cases h; rfl
 | p :: ps,_,ns,.cons r rs,h => by
  cases p with
  | int i =>
   simp only [oD,Option.map_eq_some_iff] at h
   obtain ⟨ms,h1,rfl⟩:=h
   cases r
   rw [RpL.ints rs h1]
   rfl
  | _ => simp [oD] at h
end Vl
noncomputable section
namespace Vl
open PySem PySem.Spec PyProof.Rows L2 Dv
variable [Dv.Wld]
section
variable {en : En} {X : Cx} {io : Io} {ss : List Stmt} {st : Stmt} {l : LS}
def zN (N : Nat) (io : Io) (l : LS) : VS:=fun VL σ => ∀ w F own S G L,VRel (ak N io w) F own S G σ -> VOk (ak N io w) F VL L -> l L S G
theorem adK (h : dj en X ss l) : dG en X io ss (zN X.N.length io l):=uT h fun L S G ⟨w,F,own,σ,VL,g,q,k⟩ => q w F own S G L g k
theorem oI (h : Es en X st l) : cS en X io st (zN X.N.length io l):=eU h fun L S G ⟨w,F,own,σ,VL,g,q,k⟩ => q w F own S G L g k
theorem VRel.drop {fx : Fx} {F G G' : Gp} {own : Nat -> Gp} {S S' : S2} {σ : SV} (g : VRel fx F own S G σ) (hl : S'.length = S.length) (hp : ∀ i ∈ fx.io,S'[i]? = S[i]?) (hs : Sub G G') : VRel fx F (fun _ => aB) S' G' (fun _ => none) :=
 ⟨hl.trans g.len,fun i hi => (hp i hi).trans (g.pin i hi),g.sub.trans hs,g.frs.trans hs,g.frF,fun i a o e => (by cases e),fun i a e => absurd rfl e,fun i j a _ e => absurd rfl e,fun i c e => (by cases e),g.px⟩
end
end Vl
noncomputable section
namespace Dv
open PySem PySem.Spec PyProof.Rows L2
variable [Dv.Wld]
section
variable {X : Cx} {pins : List (Addr × Obj)} {σ : L2.St} {H : Hp} {s : Shared} {T : List (Addr × Str)} {c P : Addr} {params : Arguments} {body : Expr} {scope : Scope} {pos : Pos}
end
section
variable {X : Cx} {pins : List (Addr × Obj)} {σ : L2.St} {H : Hp} {s : Shared}
end
end Dv
namespace Vl
open PySem PySem.Spec PyProof.Rows L2 Dv
variable [Dv.Wld]
section
variable {X : Cx} {en : En} {io : Io} {xg a : Str} {CS c P : Addr} {k j : Nat} {spR : PV -> (Cell -> Prop) -> Prop} {params : Arguments} {body e : Expr} {scope : Scope} {ve : XV -> VE} {va : VE} {p lpos pos : Pos}
end
end Vl
noncomputable section
namespace Dv
open PySem PySem.Spec PyProof.Rows L2
variable [Dv.Wld]
section
variable {X : Cx} {pins : List (Addr × Obj)} {σ : L2.St} {H : Hp} {s : Shared} {a : Addr} {E : Value -> Shared -> Prop}
end
section
variable {X : Cx}
end
section
variable {X : Cx} {en : En} {pos : Pos}
end
section
variable {X : Cx} {en : En} {w : LI} {f : T -> S2 -> Option S2} {vs : List Nat}
end
section
variable {X : Cx} {en : En} {iter tg kx vx : Expr} {ifs : List Expr} {tk tv : LE} {tt : LT} {pos : Pos} {w : LI} {f : T -> S2 -> Option S2} {scope : Scope}
end
end Dv
noncomputable section
namespace Dv
open PySem PySem.Spec PyProof.Rows L2
variable [Dv.Wld]
section
variable {X : Cx} {pins : List (Addr × Obj)} {σ : L2.St} {H : Hp} {s : Shared} {a : Addr}
end
section
variable {X : Cx}
end
theorem RelN.keysL {K : Fr0} {H : Hp} : ∀ {raw : bA} {ts : List (T × T)},RelN K H raw ts -> RelL K H (raw.map fun p => V.ref p.2.1) (ts.map (·.1))
 | _,_,.nil => .nil
 | _,_,.cons a _ _ _ r => .cons a (RelN.keysL r)
section
variable {X : Cx} {en : En} {l : LA} {e : Expr} {p pos : Pos}
end
end Dv
noncomputable section
namespace Vl
open PySem PySem.Spec PyProof.Rows L2 Dv
variable [Dv.Wld]
def ap (ps : List PV) : SV:=fun i => (ps[i]?).map Cell.fr
theorem tH {n : Nat} {sp : SpV} {F G : Gp} {ts : List T} {ps : List PV} {Φ : QT} {ΦE : cW} (Ψ : Cell -> Prop) (hs : Sub F G) (r : RpL F ts ps) (hl : ps.length = n) (q : sp (ap ps) (fun c _ => Ψ c) e9)
 (k : ∀ c F' H t G',Ψ c -> Sub F F' -> Sub F' G' -> Sub G G' -> bu F' H t c -> Sub H G' -> (∀ a,H a ≠ none -> G a = none) -> Φ t G') : bV n [] sp ts G Φ ΦE:=by
 have hne : ∀ a : Addr,F a ≠ none -> (if F a = none then G a else none : Option O) = none:=fun a h => by rw [if_neg h]
 refine ⟨by rw [r.length]; exact hl,fun a => if F a = none then G a else none,F,fun _ => aB,ap ps,fun c _ => Ψ c,e9,?_,q,⟨?_,fun C fs fT σ' F' own' G' h => h.elim⟩⟩
 . refine ⟨by rw [List.length_map,r.length]; exact hl,fun i hi => (by cases hi),hs,fun a o e => ?_,hne,fun i a o e => (by cases e),fun i a e => absurd rfl e,fun i j a _ e => absurd rfl e,fun i c e => ?_,Io.ok0⟩
   . simp only at e
     split at e
     . exact e
     . cases e
   . unfold ap at e
     obtain ⟨p,hp,e⟩:=Option.map_eq_some_iff.mp e
     subst e
     obtain ⟨t,ht,h⟩:=r.get hp
     exact ⟨t,by rw [List.getElem?_map,ht]; rfl,h⟩
 . intro c σ' F' own' H t G' hc x g hcell m
   have sG : Sub G G':=fun a o e => by
    cases hF : F a with
    | none => exact g.frs a o (by show (if F a = none then G a else none) = some o; rw [if_pos hF]; exact e)
    | some u =>
     have:=hs _ _ hF
     rw [this] at e
     cases e
     exact g.sub _ _ (x.sub _ _ hF)
   refine k c F' H t G' hc x.sub g.sub sG hcell m.sub fun a ha => ?_
   obtain ⟨h1,h2⟩:=m.dF a ha
   have hF : F a = none:=by
    cases z : F a with
    | none => rfl
    | some u => rw [x.sub _ _ z] at h1; cases h1
   have h2 : (if F a = none then G a else none) = none:=h2
   rwa [if_pos hF] at h2
end Vl
namespace Dv
open PySem PySem.Spec PyProof.Rows L2
variable [Dv.Wld]
section
variable {α : Type} {kf vf : α -> T} {kn : α -> NestedKey}
end
structure Laid {α : Type} (G G' : Gp) (Q : List (α × Addr)) (o : α -> O) : Prop where
 sub : Sub G G'
 at' : ∀ q ∈ Q,G' q.2 = some (o q.1)
 nd : (Q.map (·.2)).Nodup
 fr : ∀ q ∈ Q,G q.2 = none
theorem Laid.nil {α : Type} {G : Gp} {o : α -> O} : Laid G G [] o:=⟨Sub.refl G,fun q h => absurd h List.not_mem_nil,.nil,fun q h => absurd h List.not_mem_nil⟩
theorem Laid.up {α : Type} {G G' G'' : Gp} {Q : List (α × Addr)} {o : α -> O} (h : Laid G G' Q o) (s : Sub G' G'') : Laid G G'' Q o:=⟨h.sub.trans s,fun q hq => s _ _ (h.at' q hq),h.nd,h.fr⟩
end Dv
noncomputable section
namespace Dv
open PySem PySem.Spec PyProof.Rows L2
variable [Dv.Wld]
section
variable {pins : List (Addr × Obj)} {σ : L2.St} {H : Hp} {s : Shared} {a : Addr}
end
section
variable {X : Cx} {tg e : Expr} {td : TE} {apos cpos : Pos} {en : En} {la : LE}
end
end Dv
namespace Vl
open PySem PySem.Spec PyProof.Rows L2 Dv
variable [Dv.Wld]
section
variable {en : En} {X : Cx} {io : Io} {tg iter elt : Expr} {ifs : List Expr} {ss : List Stmt} {te : VE} {tt : VT} {vs : VS} {pos : Pos} {f : T -> S2 -> Option S2} {fv : PV -> SV -> Option SV} {us : List Nat} {scope : Scope}
theorem aas {st : Stmt} {va vb : VS} (ha : cS en X io st va) (hb : cS en X io st vb) : cS en X io st (fun L σ => va L σ \/ vb L σ):=eU (zK ha hb) fun L S G ⟨w,F,own,σ,VL,g,q,k⟩ => q.elim (fun q => .inl ⟨w,F,own,σ,VL,g,q,k⟩) (fun q => .inr ⟨w,F,own,σ,VL,g,q,k⟩)
end
end Vl
noncomputable section
namespace Dv
open PySem PySem.Spec PyProof.Rows L2
variable [Dv.Wld]
section
variable {X : Cx} {e d : Expr} {p pos kp : Pos} {en : En}
end
end Dv
namespace Vl
open PySem PySem.Spec PyProof.Rows L2 Dv
variable [Dv.Wld]
section
variable {X : Cx} {en : En} {io : Io} {e a b : Expr} {va vb : VE}
end
end Vl
noncomputable section
namespace Dv
open PySem PySem.Spec PyProof.Rows L2
variable [Dv.Wld]
section
variable {X : Cx} {en : En} {w w1 : LI} {f f1 : T -> S2 -> Option S2} {vs vs1 : List Nat}
structure HidL (K : Fr0) (en : En) (D : Addr) (H0 : Hp) (G0 : Gp) (H : Hp) (acc : List V) (accT : List T) (G : Gp) : Prop where
 at_ : H D = some (.lst acc)
 rel : RelL K H acc accT
 hr : HRel K en H G
 no : ¬ Own H G D
 st : Step H0 G0 H G
theorem HidL.step {K : Fr0} {D : Addr} {H0 H H' : Hp} {G0 G G' : Gp} {acc : List V} {accT : List T} (h : HidL K en D H0 G0 H acc accT G) (g : HRel K en H' G') (t : Step H G H' G') : HidL K en D H0 G0 H' acc accT G':=by
 obtain ⟨a,b⟩:=t.fr D _ h.at_ (fun ps z => by cases z) h.no
 exact ⟨a,h.rel.stay (t.stay h.hr),g,b,h.st.trans t⟩
theorem HidL.sub {K : Fr0} {D : Addr} {H0 H : Hp} {G0 G G' : Gp} {acc : List V} {accT : List T} (h : HidL K en D H0 G0 H acc accT G) (s : Sub G' G) : HidL K en D H0 G0 H acc accT G':=⟨h.at_,h.rel,h.hr.sub s,fun z => h.no (kH s z),h.st.sub s⟩
theorem HidL.put {K : Fr0} {D : Addr} {H0 H : Hp} {G0 G : Gp} {acc : List V} {accT : List T} {v : V} {t : T} (h : HidL K en D H0 G0 H acc accT G) (r : Rel K H v t) (hD0 : ∀ o,H0 D = some o -> ∃ ps,o = .tbl ps) (hen : ∀ e ∈ en,∀ o,e.1 D = some o -> ∃ ps,o = .tbl ps) :
    HidL K en D H0 G0 (L2.upd H D (.lst (acc ++ [v]))) (acc ++ [v]) (accT ++ [t]) G /\ a9 K H (L2.upd H D (.lst (acc ++ [v]))):=by
 obtain ⟨g6,st6⟩:=h.hr.under (ho:=.lst (acc ++ [v])) h.no h.at_ rfl hen
 exact ⟨⟨upd_same,(h.rel.app (.cons r .nil)).stay st6,g6,fun z => h.no ((gU h.no).mp z),h.st.under hD0 h.no⟩,st6⟩
end
section
variable {X : Cx} {en : En} {iter tg iter1 tg1 elt : Expr} {ifs ifs1 : List Expr} {te : LE} {tt tt1 : LT} {pos spos py : Pos} {w w1 : LI} {f f1 : T -> S2 -> Option S2} {scope : Scope} {y : Str}
end
end Dv
noncomputable section
namespace Dv
open PySem PySem.Spec PyProof.Rows L2
variable [Dv.Wld]
section
variable {P : Program} {w : World} {A : Around} {E : Value -> Shared -> Prop} {s : Shared}
def xG (h : Heap) (k : NestedKey) (b : Addr) : Prop:=NestedIs h k (.ref b) /\ k.depth <= 8
abbrev Mem:=Addr × NestedKey
def wA (w : World) (p : Mem) : Int × Value:=(p.2.hash w,Value.ref p.1)
structure NxS (w : World) (h : Heap) (a : Addr) (L : List Mem) (es : Array (Int × Value)) (ep : Nat) (t : SetTable) : Prop where
 ob : ∃ o,h.get? a = some o /\ o.ExactSet /\ o.data = .set es ep t
 rows : es.toList = L.map (wA w)
 tab : TabOk t (L.map fun p => p.2.hash w)
 nd : (L.map (·.2)).Nodup
 is : ∀ p ∈ L,xG h p.2 p.1
 led : w.params.followText "set-order" = true \/ t.led = true
 room : L.length * 5 < t.mask * 3
 few : L.length < 77
variable {a : Addr} {L : List Mem} {es : Array (Int × Value)} {ep : Nat} {t : SetTable}
theorem NxS.size {h : Heap} (R : NxS w h a L es ep t) : es.size = L.length:=by
 have:=congrArg List.length R.rows
 rwa [Array.length_toList,List.length_map] at this
theorem NxS.at_ {h : Heap} (R : NxS w h a L es ep t) {i : Nat} {p : Mem} (e : L[i]? = some p) : es[i]? = some (wA w p):=by
 rw [<- Array.getElem?_toList,R.rows,List.getElem?_map,e]
 rfl
theorem NxS.here {h : Heap} (R : NxS w h a L es ep t) : ¬ t.gaveWay = true:=by
 unfold SetTable.gaveWay
 rw [mask_odd R.tab.mok]
 decide
theorem NxS.keep {h h' : Heap} (R : NxS w h a L es ep t) (ha : ∀ o,h.get? a = some o -> h'.get? a = some o) (hi : ∀ p ∈ L,xG h' p.2 p.1) : NxS w h' a L es ep t:=by
 obtain ⟨o,ho,r⟩:=R.ob
 exact ⟨⟨o,ha o ho,r⟩,R.rows,R.tab,R.nd,hi,R.led,R.room,R.few⟩
structure GotN (ks : List Mem) (i : Nat) (L : List Mem) : Prop where
 sub : ∀ p ∈ L,p ∈ ks.take i
 all : ∀ p ∈ ks.take i,p.2 ∈ L.map (·.2)
 len : L.length <= i
theorem GotN.step {ks M : List Mem} {i : Nat} {x : Mem} (g : GotN ks i L) (h : ks[i]? = some x) (c1 : x.2 ∈ L.map (·.2) -> M = L) (c2 : x.2 ∉ L.map (·.2) -> M.Perm (x :: L)) : GotN ks (i + 1) M:=by
 have tk : ks.take (i + 1) = ks.take i ++ [x]:=by
  rw [List.take_succ,h]
  rfl
 by_cases hm : x.2 ∈ L.map (·.2)
 . rw [c1 hm]
   refine ⟨fun p hp => ?_,fun p hp => ?_,Nat.le_succ_of_le g.len⟩
   . rw [tk]; exact List.mem_append_left _ (g.sub p hp)
   . rw [tk] at hp
     rcases List.mem_append.mp hp with z | z
     . exact g.all p z
     . rw [List.mem_singleton.mp z]; exact hm
 . have pm:=c2 hm
   refine ⟨fun p hp => ?_,fun p hp => ?_,?_⟩
   . rw [tk]
     rcases List.mem_cons.mp (pm.mem_iff.mp hp) with e | z
     . rw [e]; exact List.mem_append_right _ (List.mem_singleton.mpr rfl)
     . exact List.mem_append_left _ (g.sub p z)
   . rw [(pm.map (·.2)).mem_iff,List.map_cons]
     rw [tk] at hp
     rcases List.mem_append.mp hp with z | z
     . exact List.mem_cons_of_mem _ (g.all p z)
     . rw [List.mem_singleton.mp z]; exact List.mem_cons_self
   . rw [pm.length_eq,List.length_cons]
     exact Nat.succ_le_succ g.len
end
section
variable {X : Cx} {pins : List (Addr × Obj)} {σ : L2.St} {H : Hp} {s : Shared} {a : Addr} {en : En} {o e : Expr} {la lb : LE} {apos cpos : Pos} {td ty : TE}
end
end Dv
namespace Vl
open PySem PySem.Spec PyProof.Rows L2 Dv
variable [Dv.Wld]
section
variable {en : En} {X : Cx} {io : Io} {e o b : Expr} {st : Stmt} {va vb : VE} {l : LE} {C : Addr}
theorem VRel.grow {fx : Fx} {F G G' : Gp} {own : Nat -> Gp} {S : S2} {σ : SV} (g : VRel fx F own S G σ) (s : Sub G G') : VRel fx F own S G' σ :=
 ⟨g.len,g.pin,g.sub.trans s,g.frs.trans s,g.frF,fun i => (g.owG i).trans s,g.owF,g.dis,g.cell,g.px⟩
theorem Tmp.grow {fx : Fx} {F G G' H : Gp} {own : Nat -> Gp} {S : S2} {σ : SV} (g : VRel fx F own S G σ) (s : Sub H G') (h : ∀ a,H a ≠ none -> G a = none) : Tmp fx F own G' H:=by
 refine ⟨s,fun a e => ⟨?_,?_⟩,fun a i e => ?_⟩
 . cases z : F a with
   | none => rfl
   | some u => have:=g.sub _ _ z; rw [h a e] at this; cases this
 . cases z : fx.Fr a with
   | none => rfl
   | some u => have:=g.frs _ _ z; rw [h a e] at this; cases this
 . cases z : own i a with
   | none => rfl
   | some u => have:=g.owG i _ _ z; rw [h a e] at this; cases this
end
end Vl
noncomputable section
namespace Dv
open PySem PySem.Spec PyProof.Rows L2
open PySem.W (KeqHitsP)
variable [Dv.Wld]
section
variable {X : Cx} {en : En}
end
section
variable {X : Cx} {e : Expr} {p pos : Pos} {en : En}
end
section
variable {X : Cx} {en : En} {a b c e o i : Expr} {es : List Expr} {la : LE} {pos : Pos}
abbrev LG:=T -> S2 -> Gp -> (S2 -> Gp -> Prop) -> Prop
def hN (j : Nat) : LG:=fun t S G Φ => Φ (S.set j (some t)) G
end
end Dv
noncomputable section
namespace SrtK
open PySem PySem.W PySem.Calls PyProof.Rows
section
variable {prog : Program} {w : World} {A : Around} {E : Value -> Shared -> Prop} {s : Shared} {a kS : Addr} {b : Bool} {vs ks : List Value} {keys : Array Value} {e e1 : Nat} {P : PySem.Fin -> Shared -> Prop} {kz : List PyData} {J : List Value -> Shared -> Prop}
def rg (J : List Value -> Shared -> Prop) (a kS : Addr) : Prop:=∀ (ks : List Value) (s : Shared) (c : Addr) (f : Array Value -> Array Value) (tk : Nat),(c = a \/ c = kS) -> J ks s -> J ks { s with heap:=s.heap.update c (Obj.mapSeq f),toks:=tk }
theorem tail {st : SortSt} {out : List Value} (fr : rg J a kS) (j : J ks s) (nk : s.heap.get? kS = some (seqObj "list" keys e)) (na : s.heap.get? a = some (seqObj "list" #[] e1)) (hka : kS ≠ a)
 (hsz : keys.size <= sizeLine) (hz : out.length <= sizeLine) (hfl : failedOf st = none) (ho : (if b = true then ((arrOf st).map (·.2)).reverse else (arrOf st).map (·.2)) = out.toArray)
 (h : ∀ s' c,J ks s' -> s'.heap.get? a = some (seqObj "list" out.toArray c) -> P (.done (.ret .none)) s') :
    wpAny (model prog w) A (ksk_tail a b e1 (.ref kS) st) P E s:=by
 have s1:=Heap.SameBut.update s.heap kS (Obj.mapSeq fun _ => (#[] : Array Value))
 have na1 : (s.heap.update kS (Obj.mapSeq fun _ => (#[] : Array Value))).get? a = some (seqObj "list" #[] e1):=(s1.2 a hka.symm).trans na
 have hz2 : out.toArray.size <= sizeLine + 1:=by
  rw [List.size_toArray]
  exact Nat.le_succ_of_le hz
 have j1:=fr ks s kS (fun _ => (#[] : Array Value)) s.toks (.inr rfl) j
 have j2:=fr ks _ a (fun _ => out.toArray) s.toks (.inl rfl) j1
 unfold ksk_tail
 try dsimp only
 rw [ho]
 refine wpAny_bind (listUpdate_at nk rfl ?_ hsz (Nat.zero_le _))
 refine wpAny_bind (wpAny_letGo ?_)
 refine wpAny_bind (seqEpoch_at na1 rfl ?_)
 refine wpAny_bind (listUpdate_at na1 rfl ?_ (Nat.zero_le _) hz2)
 rw [hfl]
 simp only [bne_self_eq_false,Bool.false_eq_true,if_false]
 exact wpAny_pure (h _ _ j2 (get?_update_seq na1 fun _ => out.toArray))
theorem ab7 {κ : PyProof.Rows.KeyKind} (fr : rg J a kS) (j : J ks s) (nk : s.heap.get? kS = some (seqObj "list" keys e)) (na : s.heap.get? a = some (seqObj "list" #[] e1)) (hka : kS ≠ a)
 (S : SortsAt prog w A s κ keys.toList) (hsz : keys.size = vs.length) (hZ : vs.length <= sizeLine)
 (h : ∀ s' c,J ks s' -> s'.heap.get? a = some (seqObj "list" (sortVals κ b keys.toList vs).toArray c) -> P (.done (.ret .none)) s') :
    wpAny (model prog w) A (ksk_end a b vs.toArray e1 (.ref kS) keys) P E s:=by
 obtain ⟨kd,h1,h2⟩:=S.kind
 have hkl : keys.toList.length = vs.length:=by
  rw [Array.length_toList]
  exact hsz
 have hK : PyProof.Rows.KeysOf κ (keys.zip vs.toArray):=keysOf_zip S.keys
 have hol : (sortVals κ b keys.toList vs).length = vs.length:=sortVals_length b hkl
 have hstart : (if b = true then (keys.zip vs.toArray).reverse else keys.zip vs.toArray).Perm (keys.zip vs.toArray):=by
  cases b with
  | false => exact Array.Perm.refl _
  | true => exact Array.perm_iff_toList_perm.mpr (by rw [if_pos rfl,Array.toList_reverse]; exact List.reverse_perm _)
 have hss : (if b = true then (keys.zip vs.toArray).reverse else keys.zip vs.toArray).size = vs.length:=by rw [hstart.size_eq,Array.size_zip,hsz,List.size_toArray,Nat.min_self]
 have fin : ∀ st' : SortSt,(arrOf st').Perm (if b = true then (keys.zip vs.toArray).reverse else keys.zip vs.toArray) -> SortedToK κ (arrOf st') (if b = true then (keys.zip vs.toArray).reverse else keys.zip vs.toArray).size ->
     Stable κ (arrOf st') (if b = true then (keys.zip vs.toArray).reverse else keys.zip vs.toArray) -> (if b = true then ((arrOf st').map (·.2)).reverse else (arrOf st').map (·.2)) = (sortVals κ b keys.toList vs).toArray:=by
  intro st' hp hs ht
  have e:=sort_out (rev:=b) (keys:=keys) (items:=vs.toArray) (xs:=arrOf st') (κ:=κ) hK hp hs ht
  have e':=congrArg List.toArray e
  rw [Array.toArray_toList] at e'
  exact e'
 have step : ∀ t : Sem PySem.Fin,wpAny (model prog w) A t P E s -> wpAny (model prog w) A (if b = true then (do let _ <- rule "list.sort.reverse"; t) else t) P E s:=by
  intro t ht
  split
  . exact wpAny_bind (wpAny_rule ht)
  . exact ht
 unfold ksk_end
 try dsimp only
 refine step _ ?_
 by_cases hl2 : vs.toArray.size < 2
 . rw [if_pos hl2,if_pos hl2]
   refine wpAny_bind (wpAny_pure ?_)
   rw [StateT.run_pure]
   refine wpAny_bind (wpAny_pure ?_)
   try dsimp only
   refine tail (st:=SortSt.mk' general' (if b = true then (keys.zip vs.toArray).reverse else keys.zip vs.toArray) #[] 7 none) fr j nk na hka (by rw [hsz]; exact hZ) (by rw [hol]; exact hZ) rfl (fin _ (Array.Perm.refl _) ?_ (Stable.refl _)) h
   intro i j hij hj
   rw [hss] at hj
   rw [List.size_toArray] at hl2
   have : i = j:=by omega
   subst this
   exact KeyOrd.kle_refl _
 . rw [if_neg hl2,if_neg hl2]
   rw [List.size_toArray] at hl2
   refine wpAny_bind (h2 (by omega) _ ?_)
   refine wpAny_bind (wpAny_mono (H.wpS_sortRunsSt (κ:=κ) (kd:=kd) (a₀:=if b = true then (keys.zip vs.toArray).reverse else keys.zip vs.toArray)
    (st:=SortSt.mk' kd (if b = true then (keys.zip vs.toArray).reverse else keys.zip vs.toArray) #[] 7 none)
    (Q:=fun _ st' => failedOf st' = none /\ (if b = true then ((arrOf st').map (·.2)).reverse else (arrOf st').map (·.2)) = (sortVals κ b keys.toList vs).toArray)
    h1 (hK.perm hstart) ⟨Array.Perm.refl _,rfl,rfl⟩ rfl (Stable.refl _) (by rw [hss]; omega) fun st' a1 a2 a3 a4 => ⟨a2,fin st' a1 a3 a4⟩) ?_ fun _ _ e => e)
   rintro ⟨⟨⟩,st'⟩ s' ⟨rfl,hf,ho⟩
   try dsimp only at ho ⊢
   exact tail fr j nk na hka (by rw [hsz]; exact hZ) (by rw [hol]; exact hZ) hf ho h
theorem rest {f : Value} (fr : rg J a kS) (j0 : J [] s) (nk : s.heap.get? kS = some (seqObj "list" #[] 0)) (na : s.heap.get? a = some (seqObj "list" #[] e1)) (hka : kS ≠ a)
 (hZ : vs.length <= sizeLine) (hal : AllAlike kz) (hsk : Sortable kz) (hu : ∀ d,d ∈ kz -> A.units + d.depth < cLine)
 (turn : ∀ (i : Nat) (v : Value) (ks : List Value) (s' : Shared) (kA : Array Value) (e : Nat),vs[i]? = some v -> ks.length = i -> J ks s' -> s'.heap.get? kS = some (seqObj "list" kA e) -> s'.heap.get? a = some (seqObj "list" #[] e1) ->
     wpAny (model prog w) A (call f [v]) (fun u s'' => J (ks ++ [u]) s'' /\ s''.heap.get? kS = some (seqObj "list" kA e) /\ s''.heap.get? a = some (seqObj "list" #[] e1)) (fun _ _ => False) s')
    (rd : ∀ ks s',ks.length = vs.length -> J ks s' -> EachIs (fun v k => ∃ as,Reads s'.heap v k as) ks kz)
    (h : ∀ ks s' out c,J ks s' -> s'.heap.get? a = some (seqObj "list" (List.toArray out) c) -> KeyedOut b kz vs out -> P (.done (.ret .none)) s') :
    wpAny (model prog w) A (ksk_rest a f b vs.toArray e1 (.ref kS)) P E s:=by
 unfold ksk_rest
 refine wpAny_bind (wpAny_rule ?_)
 first
  | rw [List.forIn_toArray]
  | (rw [<- Array.forIn_toList]; simp only [List.toList_toArray])
  | rw [<- Array.forIn_toList]
 refine wpAny_bind (ksk_fold (fun i s' => ∃ kA e,J kA.toList s' /\ kA.size = i /\ s'.heap.get? kS = some (seqObj "list" kA e) /\ s'.heap.get? a = some (seqObj "list" #[] e1)) vs 0 s
  ⟨#[],0,j0,rfl,nk,na⟩ ?step ?done)
 case step =>
  rintro j x s' hx ⟨kA,e,j',hk,nk',na'⟩
  simp only [Nat.zero_add] at hk ⊢
  have hj : j < vs.length:=(List.getElem?_eq_some_iff.mp hx).1
  have hz : kA.size <= vs.length:=by omega
  refine wpAny_bind (wpAny_attempt (wpAny_mono (turn j x kA.toList s' kA e hx (by rw [Array.length_toList]; exact hk) j' nk' na') (fun v s'' he => ?_) fun _ _ hF => hF.elim))
  obtain ⟨j2,nk2,na2⟩:=he
  try dsimp only
  have s1:=Heap.SameBut.update s''.heap kS (Obj.mapSeq (·.push v))
  refine wpAny_bind (listUpdate_at nk2 rfl ?_ (Nat.le_trans hz hZ) (Nat.le_trans (Nat.le_of_eq (Array.size_push ..)) (Nat.succ_le_succ (Nat.le_trans hz hZ))))
  have j3:=fr _ s'' kS (·.push v) s''.toks (.inr rfl) j2
  exact wpAny_pure ⟨rfl,kA.push v,_,by rw [show (kA.push v).toList = kA.toList ++ [v] by simp]; exact j3,by rw [Array.size_push,hk],get?_update_seq nk2 (·.push v),(s1.2 a hka.symm).trans na2⟩
 case done =>
  rintro s' ⟨kA,e,j',hk,nk',na'⟩
  rw [Nat.zero_add] at hk
  have hk':=rd kA.toList s' (by rw [Array.length_toList]; exact hk) j'
  try dsimp only
  refine wpAny_bind (listItems_at nk' rfl ?_)
  exact ab7 (κ:=dataKind s'.heap kz) fr j' nk' na' hka (SortsAt.data (s:=s') hk' hal hsk hu) hk hZ fun s3 c j3 n3 => h _ s3 _ c j3 n3 ⟨s'.heap,kA.toList,hal,rfl,hk'⟩
end
end SrtK
namespace Dv
open PySem PySem.Spec PyProof.Rows L2
variable [Dv.Wld]
section
variable {X : Cx} {pins : List (Addr × Obj)} {σ : L2.St} {H : Hp} {s : Shared} {T : List (Addr × Str)} {c P : Addr} {params : Arguments} {body : Expr} {scope : Scope} {pos : Pos} {a : Str}
end
section
variable {X : Cx} {pins : List (Addr × Obj)} {σ : L2.St} {H H2 : Hp} {s : Shared} {en : En} {G : Gp} {a kS : Addr} {ks : List Value} {kts : List T}
def JS (X : Cx) (pins : List (Addr × Obj)) (σ : L2.St) (en : En) (H2 : Hp) (G : Gp) (kts : List T) (a kS : Addr) (ks : List Value) (s' : Shared) : Prop :=
 ∃ (H' : Hp) (kvs : List V),L2.Inv X pins σ H' s' /\ FpOk X pins H' a /\ FpOk X pins H' kS /\ HRel X.K en H' G /\ Step H2 G H' G /\ Vals kvs ks /\ RelL X.K H' kvs (kts.take ks.length)
theorem JS.start {h' : Heap} {tk : Nat} (I : L2.Inv X pins σ H s) (g : HRel X.K en H G) (ha : s.heap.objs.size <= a) (hk : s.heap.objs.size <= kS) (kp : ∀ b o,s.heap.get? b = some o -> h'.get? b = some o) : JS X pins σ en H G kts a kS [] { s with heap:=h',toks:=tk } :=
 ⟨H,[],I.kept kp,I.fpOk ha (I.hok.fresh ha),I.fpOk hk (I.hok.fresh hk),g,Step.refl _ _,.nil,.nil⟩
theorem JS.done {vs : List V} {ts : List T} {kf : T -> T} {us out : List Value} {cv : Nat} {Q : VK} (J : JS X pins σ en H2 G kts a kS ks s) (g2 : HRel X.K en H2 G) (ek : kts = ts.map kf) (rl : RelL X.K H2 vs ts) (ru : Vals vs us) (hz : us.length <= sizeLine)
 (ga : s.heap.get? a = some (seqObj "list" (List.toArray out) cv)) (ko : PySem.W.KeyedOut false (kts.map pd) us out)
 (go : ∀ H3,HRel X.K en H3 (gup G a (.lst (ts.mergeSort (PySem.W.dataLe false fun x => pd (kf x))))) -> Step H2 G H3 (gup G a (.lst (ts.mergeSort (PySem.W.dataLe false fun x => pd (kf x))))) -> G a = none -> Q (.ref a) H3) :
    EP X pins σ Q (.ref a) s:=by
 obtain ⟨H',kvs,I,fa,fk,g,st,_,_⟩:=J
 have sy:=st.stay g2
 have hl : vs.length = ts.length:=rl.length
 have e1 : kts.map pd = (vs.zip ts).map fun b => pd (kf b.2):=by
  rw [ek,List.map_map]
  have : ts = (vs.zip ts).map (·.2):=by
   rw [List.map_snd_zip]
   omega
  conv => lhs; rw [this,List.map_map]
  rfl
 rw [e1] at ko
 have eR : PySem.W.EachIs (fun (u : Value) (b : V × T) => RelV b.1 u /\ Rel X.K H' b.1 b.2) us (vs.zip ts):=by
  have : ∀ {vs : List V} {ts : List T} {us : List Value},RelL X.K H2 vs ts -> Vals vs us -> PySem.W.EachIs (fun (u : Value) (b : V × T) => RelV b.1 u /\ Rel X.K H' b.1 b.2) us (vs.zip ts):=by
   intro vs ts us r
   induction r using RelL.rec (motive_1:=fun _ _ _ => True) generalizing us with
   | nil =>
    intro rv
    cases rv
    exact .nil
   | cons r1 r2 _ ih =>
    intro rv
    cases rv with
    | cons u1 u2 => exact .cons ⟨u1,Rel.stay sy r1⟩ (ih u2)
   | _ => trivial
  exact this rl ru
 have eo:=PySem.W.keyedOut_each (fun b : V × T => pd (kf b.2)) ko eR
 have split : ∀ {out : List Value} {bs : List (V × T)},PySem.W.EachIs (fun (u : Value) (b : V × T) => RelV b.1 u /\ Rel X.K H' b.1 b.2) out bs -> Vals (bs.map (·.1)) out /\ RelL X.K H' (bs.map (·.1)) (bs.map (·.2)):=by
  intro out bs e
  induction e with
  | nil => exact ⟨.nil,.nil⟩
  | cons h t ih => exact ⟨.cons h.1 ih.1,.cons h.2 ih.2⟩
 obtain ⟨v1,r1⟩:=split eo
 have e2 : ((vs.zip ts).mergeSort (PySem.W.dataLe false fun b => pd (kf b.2))).map (·.2) = ts.mergeSort (PySem.W.dataLe false fun x => pd (kf x)):=by
  have h1:=List.map_mergeSort (r:=PySem.W.dataLe false fun b : V × T => pd (kf b.2)) (s:=PySem.W.dataLe false fun x : T => pd (kf x)) (f:=fun b : V × T => b.2) (l:=vs.zip ts) fun a _ b _ => rfl
  rw [h1,List.map_snd_zip]
  omega
 rw [e2] at r1
 have hz2 : (((vs.zip ts).mergeSort (PySem.W.dataLe false fun b => pd (kf b.2))).map (·.1)).length <= sizeLine:=by
  rw [List.length_map,List.length_mergeSort,List.length_zip]
  have:=Vals.length ru
  omega
 have I3:=I.take (t':=s.toks) (h':=s.heap) (o:=.lst (((vs.zip ts).mergeSort (PySem.W.dataLe false fun b => pd (kf b.2))).map (·.1))) (fun b ob _ e => e) fa (show ObjOk X.prog X.w _ _ _ (.lst _) from ⟨hz2,out,cv,v1,ga⟩)
 obtain ⟨g3,st3,sy3⟩:=g.upd (o:=.lst (ts.mergeSort (PySem.W.dataLe false fun x => pd (kf x)))) (ho:=.lst (((vs.zip ts).mergeSort (PySem.W.dataLe false fun b => pd (kf b.2))).map (·.1))) (.inl fa.1) (fun n z => by cases z) ⟨_,upd_same,r1.stay (HRel.laid g fa.1).2.2⟩
 exact ⟨.ref a,_,I3,rfl,go _ g3 (st.trans st3) (g.fresh fa.1)⟩
end
section
variable {X : Cx} {en : En} {e body : Expr} {params : Arguments} {scope : Scope} {p pos lpos kp : Pos} {c P : Addr} {j k : Nat} {yq x0 : Str} {le lb : LE}
end
section
variable {P : Program} {w : World} {K : Fr0} {mg : Str -> Option Value} {base : Heap} {m qual : Str} {st : Stmt} {N ps : List Str} {k : Nat} {sp : aI} {C : Addr}
end
end Dv
end
namespace Dv
open PySem PySem.W PyProof.Rows
variable {K : Params -> Frag} {as ts : List Addr} {w : World} {h : Heap}
theorem sD {K : Fr0} {C : Addr} {n : String} (cD : PySem.W.isClsIn K C = true) (tD : PySem.W.typeIn K (.ref C) = some (.type "type")) (s : PySem.W.subIn K (.type n) (.ref C) = some false) : PySem.W.kitOne K (.type n) (.ref C) = some false:=by
 unfold PySem.W.kitOne PySem.W.kitCls
 have h1 : ((Value.type n == Value.ref C) = true) = False:=eq_false fun z => by have:=beq_iff_eq.mp z; cases this
 have h2 : (PySem.W.clsIn K C).isSome = true:=cD
 simp only [h1,if_false,h2,tD,s,beq_self_eq_true,Bool.and_self,if_true]
end Dv
noncomputable section
namespace Vl
open PySem PySem.Spec PyProof.Rows L2 Dv
variable [Dv.Wld]
section
variable {X : Cx} {en : En} {io : Io} {e a b : Expr} {va vb : VE} {r : bj} {rp : Cell -> Cell -> (Bool -> Prop) -> Prop}
def lD (r : RV) (σ : SV) : Option Cell:=match r with
 | .sl j => σ j
 | .v c => some c
def jg (rp : Cell -> Cell -> (Bool -> Prop) -> Prop) (va vb : VE) : VT:=fun σ Ψ => va σ fun r σ1 => match r with
 | .sl i => vb σ1 fun r2 σ2 => match σ2 i with
  | some c => (match lD r2 σ2 with
   | some d => rp c d fun b => Ψ b σ2
   | none => False)
  | none => False
 | _ => False
def nj (rp : Cell -> Cell -> (Bool -> Prop) -> Prop) (va vb : VE) : VE:=fun σ Ψ => jg rp va vb σ fun b σ1 => Ψ (.v (.fr (.bl b))) σ1
end
end Vl
noncomputable section
namespace L2
open PySem PySem.Spec PyProof.Rows
section
variable {prog : Program} {w : World} {A : Around} {R : Result -> Shared -> Prop} {s : Shared} {kx vx t0 i0 t1 i1 : Expr} {ifs0 ifs1 : List Expr} {scope : Scope} {pos : Pos} {it : Value} {D : Addr} {env : Env}
end
end L2
namespace Dv
open PySem PySem.Spec PyProof.Rows L2
variable [Dv.Wld]
section
variable {X : Cx}
end
section
variable {X : Cx} {en : En} {w w1 : LI} {f f1 : T -> S2 -> Option S2} {vs vs1 : List Nat}
structure HidN (K : Fr0) (en : En) (D : Addr) (H0 : Hp) (G0 : Gp) (H : Hp) (acc : bA) (accT : List (T × T)) (G : Gp) : Prop where
 at_ : H D = some (aL Dv.Wld.w D acc)
 rel : RelN K H acc accT
 hr : HRel K en H G
 no : ¬ Own H G D
 st : Step H0 G0 H G
theorem HidN.step {K : Fr0} {D : Addr} {H0 H H' : Hp} {G0 G G' : Gp} {acc : bA} {accT : List (T × T)} (h : HidN K en D H0 G0 H acc accT G) (g : HRel K en H' G') (t : Step H G H' G') : HidN K en D H0 G0 H' acc accT G':=by
 obtain ⟨a,b⟩:=t.fr D _ h.at_ (fun ps z => by cases z) h.no
 exact ⟨a,h.rel.stay (t.stay h.hr),g,b,h.st.trans t⟩
theorem HidN.sub {K : Fr0} {D : Addr} {H0 H : Hp} {G0 G G' : Gp} {acc : bA} {accT : List (T × T)} (h : HidN K en D H0 G0 H acc accT G) (s : Sub G' G) : HidN K en D H0 G0 H acc accT G':=⟨h.at_,h.rel,h.hr.sub s,fun z => h.no (kH s z),h.st.sub s⟩
theorem HidN.put {K : Fr0} {D : Addr} {H0 H : Hp} {G0 G : Gp} {acc : bA} {accT : List (T × T)} {k0 : NestedKey} {q : Addr} {v : V} {kt t : T} (h : HidN K en D H0 G0 H acc accT G) (rk : Rel K H (.ref q) kt) (e1 : bT kt = some k0) (e2 : k0.depth <= 8) (r : Rel K H v t) (hD0 : ∀ o,H0 D = some o -> ∃ ps,o = .tbl ps) (hen : ∀ e ∈ en,∀ o,e.1 D = some o -> ∃ ps,o = .tbl ps) :
    HidN K en D H0 G0 (L2.upd H D (aL Dv.Wld.w D (putN acc k0 q v))) (putN acc k0 q v) (kZ accT k0 kt t) G /\ a9 K H (L2.upd H D (aL Dv.Wld.w D (putN acc k0 q v))):=by
 obtain ⟨g6,st6⟩:=h.hr.under (ho:=aL Dv.Wld.w D (putN acc k0 q v)) h.no h.at_ x9 hen
 exact ⟨⟨upd_same,(h.rel.put rk e1 e2 r).stay st6,g6,fun z => h.no ((gU h.no).mp z),h.st.under hD0 h.no⟩,st6⟩
end
section
variable {X : Cx} {en : En} {iter tg iter1 tg1 kx vx : Expr} {ifs ifs1 : List Expr} {tk tv : LE} {tt tt1 : LT} {pos spos py : Pos} {w w1 : LI} {f f1 : T -> S2 -> Option S2} {scope : Scope} {y : Str}
end
section
variable {X : Cx}
end
section
variable {X : Cx} {en : En} {iter tg iter1 tg1 kx vx : Expr} {ifs ifs1 : List Expr} {tk tv : LE} {tt tt1 : LT} {pos spos py : Pos} {w w1 : LI} {f f1 : T -> S2 -> Option S2} {scope : Scope} {y : Str}
end
end Dv
noncomputable section
namespace Vl
open PySem PySem.Spec PyProof.Rows L2 Dv
variable [Dv.Wld]
variable {en : En} {X : Cx} {io : Io} {a b e : Expr} {va vb : VE}
theorem RpN.snoc {F : Gp} {k t : T} {q p : PV} (a : Rp F k q) (b : Rp F t p) : ∀ {ts : List (T × T)} {ps : List (PV × PV)},RpN F ts ps -> RpN F (ts ++ [(k,t)]) (ps ++ [(q,p)])
 | _,_,.nil => .cons a b .nil
 | _,_,.cons c d r => .cons c d (RpN.snoc a b r)
end Vl
noncomputable section
namespace Dv
open PySem PySem.Spec PyProof.Rows L2
variable [Dv.Wld]
section
open PySem.W Builtin
variable {prog : Program} {w : World} {A : Around} {E : Value -> Shared -> Prop} {s : Shared} {K : Frag} {x C L f : Addr} {h₀ : Heap} {m : Str -> Option Value} {ox : Obj} {od : Option Obj} {b tb : Value}
theorem aeg {Q : Fin -> Shared -> Prop} (X : K.In s.heap) (I : InstAt s.heap x ox C od) (hu : A.units < cLine) (hs : findIn K (.ref C) "__eq__" = some (some (.ref f))) (hf : isFn K (.ref f) = true)
 (hcall : wpAny (model prog w) A (call (.ref f) [.ref x,b]) (fun v s' => ∃ c,v = .bool c /\ Q (.done (.ret (.bool (!c)))) s') E s) : wpAny (model prog w) A (Builtin.«object.__ne__» ⟨[.ref x,b],[]⟩) Q E s:=by
 unfold Builtin.«object.__ne__»
 repeat (first
  | with_reducible refine wpAny_cRoomFor hu ?_
  | (refine wpAny_bind (m:=callSpecialIfBound? (.ref x) (Str.ofString "__eq__") [b])
      (ifBound_K X I hs hf (wpAny_mono hcall (fun r s' hr => by
       obtain ⟨c,rfl,hq⟩:=hr
       repeat (first | exact hq | exact wpAny_pure hq | exact wpAny_truthy_bool hq | (refine wpAny_bind (m:=truthy (.bool _)) (wpAny_truthy_bool ?_)) | wp_step)) fun _ _ e => e)))
  | wp_step)
theorem afe {M : Model} {A : Around} {Q : Unit -> Shared -> Prop} (X : K.In s.heap) (I : InstAt s.heap x ox C od) (hob : subIn K (.ref C) (.type "object") = some true) (hq : Q () s) : wpAny M A (checkBuiltinCall "object.__ne__" ⟨[.ref x,b],[]⟩) Q E s:=by
 simp only [checkBuiltinCall,F.cmpKind_ne,F.cmpSplit_ne]
 have hI : Looks M s.heap (isInstance (.ref x) (.type "object")) true:=I.type.andThen (looks_subIn X hob)
 refine wpAny_bind (hI.here ?_)
 have ha:=F.cmpArgs_ne (.ref x) b
 repeat wp_step
 exact hq
theorem ne_K {Q : Value -> Shared -> Prop} (hu : A.units + 1 < cLine) (F : Fr h₀ L s.heap m) (X₀ : K.In h₀) (I : InstAt s.heap x ox C od) (hb : Looks (model prog w) s.heap (typeOf b) tb) (hn : notFirst K C tb = true)
 (hne : findIn K (.ref C) "__ne__" = some (some (.builtin "object.__ne__"))) (hob : subIn K (.ref C) (.type "object") = some true)
 (hs : findIn K (.ref C) "__eq__" = some (some (.ref f))) (hf : isFn K (.ref f) = true)
 (h : wpAny (model prog w) A.in1 (call (.ref f) [.ref x,b]) (fun v s' => ∃ c,v = .bool c /\ Q (.bool (!c)) s') E s) : wpAny (model prog w) A (richCompare .NotEq (.ref x) b) Q E s:=by
 have X:=X₀.keeps F.keep
 have hc : wpAny (model prog w) A (call (.builtin "object.__ne__") [.ref x,b]) (fun v s' => ∃ c,v = .bool c /\ Q (.bool c) s') E s:=by
  refine wpAny_call (codeAny_call_builtin PySem.F.cmp_object.ne.plain PySem.F.cmpEntry_ne (afe X I hob (aeg (A:=A.in1) X I hu hs hf (wpAny_mono h (fun v s' hv => ?_) fun _ _ e => e))))
  obtain ⟨c,rfl,hq⟩:=hv
  exact ⟨c,rfl,_,rfl,hq⟩
 have one : wpAny (model prog w) A (tryCompare (.ref x) (cmpInfo .NotEq).2.1 b) (fun r s' => ∃ v,r = some v /\ Q v s') E s:=by
  unfold tryCompare
  refine wpAny_bind ?_
  simp only [callSpecialIfBound?,bindSpecialIfBound?]
  refine wpAny_holding (wpAny_bind (wpAny_bind (wpAny_bind (I.type.here ((looks_findIn X hne).here ?_)))))
  simp only [PySem.F.cmp_object.ne.bind]
  refine wpAny_bind (wpAny_askSetting (wpAny_ite ?_))
  split
  . refine wpAny_bind (wpAny_pure (wpAny_pure ?_))
    refine wpAny_bind (wpAny_mono hc (fun v s' h' => ?_) fun _ _ h' => h')
    obtain ⟨c,rfl,hq⟩:=h'
    exact wpAny_pure (wpAny_pure ⟨_,rfl,hq⟩)
  . refine wpAny_tryCatch (wpAny_bind (wpAny_pure (wpAny_pure ?_)))
    refine wpAny_bind (wpAny_mono hc (fun v s' h' => ?_) fun _ _ h' => h')
    obtain ⟨c,rfl,hq⟩:=h'
    exact wpAny_pure (wpAny_pure ⟨_,rfl,hq⟩)
 unfold richCompare
 simp only [oneThing_ref]
 refine wpAny_holding (wpAny_bind (wpAny_cRoomFor (Nat.lt_of_succ_lt hu) ?_))
 refine wpAny_bind (I.type.here (wpAny_bind (hb.here ?_)))
 split
 . rename_i q
   have e : subIn K tb (.ref C) = some false:=by
    rcases Bool.or_eq_true_iff.mp hn with e | e
    . rw [beq_iff_eq.mp e] at q; simp at q
    . exact beq_iff_eq.mp e
   refine wpAny_bind ((looks_subIn X e).here ?_)
   simp only [Bool.false_eq_true,if_false]
   refine wpAny_bind (wpAny_mono one (fun r s' z => ?_) fun _ _ e => e)
   obtain ⟨v,rfl,hq⟩:=z
   exact wpAny_pure hq
 . refine wpAny_bind (wpAny_pure ?_)
   simp only [Bool.false_eq_true,if_false]
   refine wpAny_bind (wpAny_mono one (fun r s' z => ?_) fun _ _ e => e)
   obtain ⟨v,rfl,hq⟩:=z
   exact wpAny_pure hq
end
section
variable {X : Cx} {k : Nat} {C : Addr} {sp : aI} {en : En}
def x6 (K : PySem.W.Frag) (C : Addr) : Prop:=PySem.W.findIn K (.ref C) "__ne__" = some (some (.builtin "object.__ne__")) /\ PySem.W.subIn K (.ref C) (.type "object") = some true
def yh (C : Addr) (sp : aI) : bj:=fun t u G Φ => ∃ a b fs gs,t = .ref a /\ u = .ref b /\ G a = some (.ins C fs) /\ G b = some (.ins C gs) /\ sp [t,u] G (fun r G' => ∃ c : Bool,r = .bl c /\ Φ (.bl !c) G') bH
theorem yd (F : KnM X.prog X.w X.K X.mg X.base k C "__eq__" sp []) (hno : x6 X.K C) (hr : Room (k + 1) X.A) : OpR X (compareOp .NotEq) (bG X.K en (yh C sp)):=by
 obtain ⟨f,fd,ps,dvs,ds,F,c,hm,hb,hd,hdt⟩:=F.ex
 intro pins s σ H x y v u Q I rx ry ⟨t,tu,G,Φ,rt,ru,g,⟨a,b,fs,gs,e1,e2,ea,eb,q⟩,kk⟩
 subst e1 e2
 cases rt
 cases ru
 cases rx
 cases ry
 obtain ⟨dx,raw,ha,rf⟩:=g.obj _ _ ea
 obtain ⟨dy,raw2,hb2,rf2⟩:=g.obj _ _ eb
 obtain ⟨mA,J,_⟩:=ins_get I.hok ha
 obtain ⟨mB,J',_⟩:=ins_get I.hok hb2
 obtain ⟨od,J,_⟩:=J.look
 obtain ⟨od',J',_⟩:=J'.look
 obtain ⟨m,hF⟩:=I.fr
 show wpAny (model X.prog X.w) X.A (richCompare .NotEq (.ref a) (.ref b)) (EP X pins σ Q) X.xe s
 refine ne_K (tb:=.ref C) (by have:=hr.units; omega) hF I.ok.mod.kin J J'.type (by simp [PySem.W.notFirst]) hno.1 hno.2 hm.1 hm.2 ?_
 have hd0 : dvs = []:=by
  have:=hdt H
  cases this
  rfl
 subst hd0
 cases hd
 have hsp : cZ X.K sp [V.ref a,V.ref b] H (fun v H' => ∃ (c : Bool) (G' : Gp),v = .bl c /\ Φ (.bl !c) G' /\ HRel X.K en H' G' /\ Step H G H' G') (eO X.K en bH) :=
  ⟨[.ref a,.ref b],G,_,bH,.cons (.ref a) (.cons (.ref b) .nil),g.nil,q,fun t G' v H' ⟨c,e,hΦ⟩ r g' st => by subst e; cases r; exact ⟨c,G',rfl,hΦ,g.back g' st,st⟩,fun _ _ _ _ _ _ z => z.elim⟩
 have e0 : Env0 X.prog X.w X.K X.mg X.base X.A.in1 X.stack s H:=by
  have e:=I.env0
  exact ⟨e.frames,e.mod,e.bs,e.bsz,e.funs,e.frf,e.hok,e.bare⟩
 have hl:=F.len _ _ _ _ hsp
 have r2 : Vals [V.ref a,V.ref b] [Value.ref a,Value.ref b]:=.cons rfl (.cons rfl .nil)
 refine wpAny_call (codeAny_mono (F.run X.A.in1 X.stack s H ⟨[.ref a,.ref b],[]⟩ [.ref a,.ref b] [.ref a,.ref b] _ _ hr.in1 e0 (by
  have:=hb s [.ref a,.ref b] I.kIn (by simpa using hl)
  simpa using this) r2 hsp) fun r s' hq => ?_)
 cases r with
 | error e => exact iO pins σ H s e s' I hq
 | ok fl =>
  cases fl with
  | ret w =>
   obtain ⟨z,H',I',rz,c',G',ez,hΦ,g',st⟩:=I.after hq
   subst ez
   cases rz
   exact ⟨c',rfl,.bl !c',H',I',rfl,kk _ _ _ _ hΦ (.bl !c') g' st⟩
  | next => exact False.elim hq
  | brk => exact False.elim hq
  | cont => exact False.elim hq
def kB (G : Gp) : T -> Option String
 | .int _ => some "int"
 | .non => some "NoneType"
 | .ref b => (match G b with
  | some (.dic _) => some "dict"
  | some (.fdic _ _ _) => some "dict"
  | _ => none)
 | _ => none
def wJ (C : Addr) (sp : aI) : bj:=fun t u G Φ => ∃ a fs n,t = .ref a /\ G a = some (.ins C fs) /\ kB G u = some n /\ sp [t,u] G (fun r G' => ∃ c : Bool,r = .bl c /\ Φ r G') bH
theorem afs {pins : List (Addr × Obj)} {σ : L2.St} {H : Hp} {s : Shared} {G : Gp} {u : T} {y : V} {v : Value} {n : String} (I : Inv X pins σ H s) (g : HRel X.K en H G) (ru : Rel X.K H y u) (ry : RelV y v) (h : kB G u = some n) : s.TypeIs v n /\ (n = "int" \/ n = "dict" \/ n = "NoneType"):=by
 cases ru with
 | int i =>
  cases h
  obtain ⟨tk,rfl⟩:=ry
  exact ⟨rfl,.inl rfl⟩
 | non =>
  cases h
  obtain rfl:=ry
  exact ⟨rfl,.inr (.inr rfl)⟩
 | ref b =>
  simp only [kB] at h
  split at h
  . rename_i kvs e
    cases h
    obtain ⟨vs,h1,_⟩:=g.obj _ _ e
    obtain rfl : v = Value.ref b:=ry
    obtain ⟨_,hd,ws,_,dd⟩:=dk_rd I.hok (.inl h1)
    exact ⟨dd.typeIs,.inr (.inl rfl)⟩
  . rename_i ob vs ts e
    cases h
    obtain ⟨h1,_⟩:=g.obj _ _ e
    obtain rfl : v = Value.ref b:=ry
    obtain ⟨_,hd,ws,_,dd⟩:=dk_rd I.hok (.inr ⟨_,h1⟩)
    exact ⟨dd.typeIs,.inr (.inl rfl)⟩
  . cases h
 | _ => cases h
theorem aaP (F : KnM X.prog X.w X.K X.mg X.base k C "__eq__" sp []) (hs : ∀ n ∈ (["int","dict","NoneType"] : List String),PySem.W.subIn X.K (.type n) (.ref C) = some false) (hr : Room k X.A) : OpR X (compareOp .Eq) (bG X.K en (wJ C sp)):=by
 obtain ⟨f,fd,ps,dvs,ds,F,c,hm,hb,hd,hdt⟩:=F.ex
 intro pins s σ H x y v u Q I rx ry ⟨t,tu,G,Φ,rt,ru,g,⟨a,fs,n,e1,ea,en',q⟩,kk⟩
 obtain ⟨ty,hn⟩:=afs I g ru ry en'
 subst e1
 cases rt
 cases rx
 obtain ⟨dx,raw,ha,rf⟩:=g.obj _ _ ea
 obtain ⟨mA,J,_⟩:=ins_get I.hok ha
 obtain ⟨od,J,_⟩:=J.look
 obtain ⟨m,hF⟩:=I.fr
 show wpAny (model X.prog X.w) X.A (richCompare .Eq (.ref a) u) (EP X pins σ Q) X.xe s
 refine PySem.W.cmp_K (op:=.Eq) (tb:=.type n) hr.units0 hF I.ok.mod.kin J (fun A Q E s' k' q' => PySem.wpAny_typeOf (s:=s') ?_ q') ?_ hm.1 hm.2 ?_
 . cases u with
   | ref b =>
    obtain ⟨o,h1,h2⟩:=ty
    exact ⟨o,k' _ _ h1,h2⟩
   | _ => exact ty
 . rcases hn with rfl | rfl | rfl
   . simp [PySem.W.notFirst,hs "int" (by simp)]
   . simp [PySem.W.notFirst,hs "dict" (by simp)]
   . simp [PySem.W.notFirst,hs "NoneType" (by simp)]
 have hd0 : dvs = []:=by
  have:=hdt H
  cases this
  rfl
 subst hd0
 cases hd
 have hsp : cZ X.K sp [V.ref a,y] H (fun v H' => ∃ (c : Bool) (G' : Gp),v = .bl c /\ Φ (.bl c) G' /\ HRel X.K en H' G' /\ Step H G H' G') (eO X.K en bH) :=
  ⟨[.ref a,tu],G,_,bH,.cons (.ref a) (.cons ru .nil),g.nil,q,fun t G' v H' ⟨c,e,hΦ⟩ r g' st => by subst e; cases r; exact ⟨c,G',rfl,hΦ,g.back g' st,st⟩,fun _ _ _ _ _ _ z => z.elim⟩
 have e0 : Env0 X.prog X.w X.K X.mg X.base X.A X.stack s H:=I.env0
 have hl:=F.len _ _ _ _ hsp
 have r2 : Vals [V.ref a,y] [Value.ref a,u]:=.cons rfl (.cons ry .nil)
 refine wpAny_call (codeAny_mono (F.run X.A X.stack s H ⟨[.ref a,u],[]⟩ [.ref a,u] [.ref a,y] _ _ hr e0 (by
  have:=hb s [.ref a,u] I.kIn (by simpa using hl)
  simpa using this) r2 hsp) fun r s' hq => ?_)
 cases r with
 | error e => exact iO pins σ H s e s' I hq
 | ok fl =>
  cases fl with
  | ret w =>
   obtain ⟨z,H',I',rz,c',G',ez,hΦ,g',st⟩:=I.after hq
   subst ez
   cases rz
   exact ⟨.bl c',H',I',rfl,kk _ _ _ _ hΦ (.bl c') g' st⟩
  | next => exact False.elim hq
  | brk => exact False.elim hq
  | cont => exact False.elim hq
end
end Dv
noncomputable section
namespace Vl
open PySem PySem.Spec PyProof.Rows L2 Dv
variable [Dv.Wld]
section
variable {X : Cx} {en : En} {io : Io} {e a b : Expr} {va vb : VE} {r : bj} {rp : Cell -> Cell -> (Bool -> Prop) -> Prop}
def kl (r : bj) (rp : Cell -> Cell -> (Bool -> Prop) -> Prop) : Prop:=∀ (F G Ht Hu : Gp) (t u : T) (c d : Cell) (k : Bool -> Prop) (Φ : QT),Sub F G -> Sub Ht G -> Sub Hu G -> bu F Ht t c -> bu F Hu u d -> rp c d k -> (∀ b G',Sub G G' -> k b -> Φ (.bl b) G') -> r t u G Φ
theorem w9 {N : Nat} (ho : kl r rp) : ∀ S G (Φ : QT),(∃ w F own σ Ψ,VRel (ak N io w) F own S G σ /\ jg rp va vb σ Ψ /\ ∀ b σ' F' own' G',Ψ b σ' -> Ext F F' -> VRel (ak N io w) F' own' S G' σ' -> Φ (.bl b) G') -> ed r (bJ N io va) (bJ N io vb) S G Φ:=by
 intro S G Φ ⟨w,F,own,σ,Ψ,g,q,k⟩
 refine ⟨w,F,own,σ,_,g,q,fun r1 σ1 F1 own1 G1 t q1 x1 g1 rr1 => ?_⟩
 match r1,q1,rr1 with
 | .v _,q1,_ => exact q1.elim
 | .sl i, q1, rr1 =>
  refine ⟨w,F1,own1,σ1,_,g1,q1,fun r2 σ2 F2 own2 G2 u q2 x2 g2 rr2 => ?_⟩
  split at q2
  . rename_i c e1
    split at q2
    . rename_i d e2
      obtain ⟨t',et,hc⟩:=g2.cell i c e1
      have rr1 : S[i]? = some (some t):=rr1
      rw [et] at rr1
      cases rr1
      have hd : ∃ Hu,Sub Hu G2 /\ bu F2 Hu u d:=by
       match r2,e2,rr2 with
       | .sl j,e2,rr2 =>
        obtain ⟨u',eu,hu⟩:=g2.cell j d e2
        have rr2 : S[j]? = some (some u):=rr2
        rw [eu] at rr2
        cases rr2
        exact ⟨_,g2.owG j,hu⟩
       | .v c2,e2,rr2 =>
        obtain ⟨H,hc2,m⟩:=rr2
        cases e2
        exact ⟨H,m.sub,hc2⟩
      obtain ⟨Hu,hs,hd⟩:=hd
      exact ho F2 G2 (own2 i) Hu t u c d _ _ g2.sub (g2.owG i) hs hc hd q2 fun b G3 s3 hb => k _ _ _ _ _ hb (x1.trans x2) (g2.grow s3)
    . exact q2.elim
  . exact q2.elim
theorem wG (he : ∀ la lb,E en X a la -> E en X b lb -> Et en X e (lB (ed r la lb))) (ho : kl r rp) (ha : Ev en X io a va) (hb : Ev en X io b vb) : dS en X io e (jg rp va vb) :=
 lI (he _ _ ha hb) fun S G Φ ⟨w,F,own,σ,Ψ,g,q,k⟩ => w9 ho S G _ ⟨w,F,own,σ,Ψ,g,q,fun b σ' F' own' G' h x g' => k _ _ _ _ _ h x g'⟩
theorem yL (he : ∀ la lb,E en X a la -> E en X b lb -> E en X e (ed r la lb)) (ho : kl r rp) (ha : Ev en X io a va) (hb : Ev en X io b vb) : Ev en X io e (nj rp va vb) :=
 bS (he _ _ ha hb) fun S G Φ ⟨w,F,own,σ,Ψ,g,q,k⟩ => w9 ho S G _ ⟨w,F,own,σ,_,g,q,fun b σ' F' own' G' h x g' => k _ _ _ _ _ _ h x g' ⟨aB,.bl b,.nil⟩⟩
end
end Vl
set_option hygiene false
local macro_rules
 | `(tactic| simp only [VVQ, $ls,*]) => `(tactic| simp only [uD, uf, rP, qD, tj, qO, rD, vA, Vl.i7, sS, tX, lS, List.filterMap_cons, List.filterMap_nil, uX, vC, oN, pB, fz, oy, vB, uh, sf, rj, sC, uS, qi, uU, bP, mL, q8, jo, pV, qa, fC, u6, qQ, qH, rW, ql, rh, q9, rd, giv, Vl.tk, cf, eqB, sA, si, uj, Vl.oA, ig, rn, rq, tupP, nQ, rm, tyP, dU, vNext, uP, sQ, oY, mE, qc, rT, pj, nA, qt, sE, mI, sR, s6, ur, qC, mi, pL, nV, lu, ll, uJ, oR, tY, eN, a7, cz, Vl.cellOf, Vl.backV, aW, List.map_nil, List.map_cons, List.append_nil, List.cons_append, List.nil_append, List.length_cons, List.length_nil, List.mem_cons, List.not_mem_nil, List.getElem?_cons_zero, List.getElem?_cons_succ, List.getElem?_nil, or_false, List.nodup_nil, List.nodup_cons, not_false_eq_true, oO, jL, th, uo, lP, q7, nq, pM, vg, nS, qf, hH, qZ, so, nT, oz, ay, jG, mF, bN, Option.isSome_some, reduceIte, Option.bind_some, true_and, and_true, Nat.reduceEqDiff, Nat.one_ne_zero, Nat.zero_ne_one, not_true_eq_false, false_and, and_false, if_true, if_false, Nat.zero_add, Nat.add_zero, $ls,*])
 | `(tactic| simp only [VVQ]) => `(tactic| simp only [uD, uf, rP, qD, tj, qO, rD, vA, Vl.i7, sS, tX, lS, List.filterMap_cons, List.filterMap_nil, uX, vC, oN, pB, fz, oy, vB, uh, sf, rj, sC, uS, qi, uU, bP, mL, q8, jo, pV, qa, fC, u6, qQ, qH, rW, ql, rh, q9, rd, giv, Vl.tk, cf, eqB, sA, si, uj, Vl.oA, ig, rn, rq, tupP, nQ, rm, tyP, dU, vNext, uP, sQ, oY, mE, qc, rT, pj, nA, qt, sE, mI, sR, s6, ur, qC, mi, pL, nV, lu, ll, uJ, oR, tY, eN, a7, cz, Vl.cellOf, Vl.backV, aW, List.map_nil, List.map_cons, List.append_nil, List.cons_append, List.nil_append, List.length_cons, List.length_nil, List.mem_cons, List.not_mem_nil, List.getElem?_cons_zero, List.getElem?_cons_succ, List.getElem?_nil, or_false, List.nodup_nil, List.nodup_cons, not_false_eq_true, oO, jL, th, uo, lP, q7, nq, pM, vg, nS, qf, hH, qZ, so, nT, oz, ay, jG, mF, bN, Option.isSome_some, reduceIte, Option.bind_some, true_and, and_true, Nat.reduceEqDiff, Nat.one_ne_zero, Nat.zero_ne_one, not_true_eq_false, false_and, and_false, if_true, if_false, Nat.zero_add, Nat.add_zero])
local macro_rules
 | `(tactic| simp only [DVQ, $ls,*]) => `(tactic| simp only [rN, tU, qI, uL, lB, ed, cr, lC, dD, fe, mG, lO, sj, cq, lM, gN, kY, nK, wY, sP, qo, uO, iL, lQ, fH, lm, fB, oW, y8, pz, oH, jH, hM, o4, lK, o9, gz, oa, iP, ub, vq, ue, sZ, qV, pY, kX, yN, mn, sw, tG, rZ, kQ, v4, yr, wt, t8, gT, iU, ml, nT, oz, bY, sl, List.set, List.append_nil, $ls,*])
 | `(tactic| simp only [DVQ]) => `(tactic| simp only [rN, tU, qI, uL, lB, ed, cr, lC, dD, fe, mG, lO, sj, cq, lM, gN, kY, nK, wY, sP, qo, uO, iL, lQ, fH, lm, fB, oW, y8, pz, oH, jH, hM, o4, lK, o9, gz, oa, iP, ub, vq, ue, sZ, qV, pY, kX, yN, mn, sw, tG, rZ, kQ, v4, yr, wt, t8, gT, iU, ml, nT, oz, bY, sl, List.set, List.append_nil])
set_option hygiene true
namespace K02
open PySem PySem.Spec PyProof.Rows L2 Dv Vl
variable [Dv.Wld]
abbrev pw : Program:=PySem.Challenge.pw_everymiss_k02_programs_as_given
abbrev w : World:=Dv.Wld.w
def top (i : Nat) : Stmt:=pw.main.body.getD i (.Pass ⟨0,0,0,0⟩)
structure Env (K : Fr0) (mg : Str -> Option Value) (base : Heap) (aN az aw ai : Addr) : Prop where
 g_MissError : mg "MissError" = some (.ref aN)
 g_UnknownProcedure : mg "UnknownProcedure" = some (.ref az)
 x_UnknownProcedure : Ex1 K mg "UnknownProcedure" "name" az
 f_UnknownProcedure_name : PySem.W.findIn K (.ref az) "name" = some none
 e_UnknownProcedure : ExcC K az
 m_UnknownProcedure : PySem.W.exmOne K (.ref az) (.ref aN) = some true
 k_UnknownProcedure_ValueError : PySem.W.kitOne K (.ref az) (.type "ValueError") = some true
 k_UnknownProcedure_UnknownProcedure : PySem.W.kitOne K (.ref az) (.ref az) = some true
 k_UnknownProcedure_BadPlace : PySem.W.kitOne K (.ref az) (.ref aw) = some false
 g_BadPlace : mg "BadPlace" = some (.ref aw)
 x_BadPlace : Ex1 K mg "BadPlace" "value" aw
 f_BadPlace_value : PySem.W.findIn K (.ref aw) "value" = some none
 e_BadPlace : ExcC K aw
 m_BadPlace : PySem.W.exmOne K (.ref aw) (.ref aN) = some true
 k_BadPlace_ValueError : PySem.W.kitOne K (.ref aw) (.type "ValueError") = some true
 k_BadPlace_UnknownProcedure : PySem.W.kitOne K (.ref aw) (.ref az) = some false
 k_BadPlace_BadPlace : PySem.W.kitOne K (.ref aw) (.ref aw) = some true
 b_len : mg "len" = none
 b_abs : mg "abs" = none
 b_int : mg "int" = none
 b_list : mg "list" = none
 b_tuple : mg "tuple" = none
 b_sorted : mg "sorted" = none
 b_isinstance : mg "isinstance" = none
 b_range : mg "range" = none
 b_enumerate : mg "enumerate" = none
 b_zip : mg "zip" = none
 b_str : mg "str" = none
 b_bool : mg "bool" = none
 b_set : mg "set" = none
 b_dict : mg "dict" = none
 b_ValueError : mg "ValueError" = none
 g_LETTERS : tE mg "LETTERS" "abcdefghijklmnopqrstuvwxyz"
 g_MAIN : tE mg "MAIN" "main"
 g_MOST_PROCEDURES : oo mg "MOST_PROCEDURES" 6
 g_MOST_NODES : oo mg "MOST_NODES" 12
 g_MOST_BLOCKS : oo mg "MOST_BLOCKS" 6
 d_is_integer : Df K mg "is_integer" (top 12) ["value"]
 d_is_name : Df K mg "is_name" (top 13) ["value"]
 d_are_indexes : Df K mg "are_indexes" (top 14) ["value","size"]
 d_is_node : Df K mg "is_node" (top 15) ["value","size","names"]
 d_need_procedures : Df K mg "need_procedures" (top 16) ["value"]
 d_is_place : Df K mg "is_place" (top 18) ["program","value"]
 d_need_place : Df K mg "need_place" (top 19) ["program","value"]
 d_need_procedure : Df K mg "need_procedure" (top 20) ["program","name"]
 d__law_begin : Df K mg "_law_begin" (top 22) ["_law_script"]
 d__law_take : Df K mg "_law_take" (top 23) ["_law_draw","_law_size"]
 d__law_pick : Df K mg "_law_pick" (top 24) ["_law_draw","_law_some"]
 d__law_shuffled : Df K mg "_law_shuffled" (top 25) ["_law_draw","_law_some"]
 d__law_next : Df K mg "_law_next" (top 26) ["_law_draw","_law_many","_law_index"]
 d__law_nodes : Df K mg "_law_nodes" (top 27) ["_law_draw","_law_names","_law_blocks","_law_most"]
 d__law_parts : Df K mg "_law_parts" (top 28) ["_law_draw","_law_count","_law_most","_law_blocks"]
 d__law_looks : Df K mg "_law_looks" (top 29) ["_law_program","_law_parts_here"]
 d__law_changed : Df K mg "_law_changed" (top 30) ["_law_draw","_law_parts_here"]
 d_law : Df K mg "law" (top 31) ["_law_script"]
 c_Program : Cls K ai
 i_Program : C8.InsC K ai /\ mg "Program" = some (.ref ai)
 n_Program_parts : NoAttr K ai "parts"
 d_Program_init : DfI K mg "Program" ai "Program.__init__" (inClass (top 17) 0) ["self","procedures"]
 d_Program_nodes : DfM K ai "nodes" "Program.nodes" (inClass (top 17) 5) ["self","name"]
 d_Program_node : DfM K ai "node" "Program.node" (inClass (top 17) 6) ["self","place"]
 d_Program___eq__ : DfM K ai "__eq__" "Program.__eq__" (inClass (top 17) 1) ["self","other"]
 d_Program_blocks : DfP K ai "blocks" "Program.blocks" (inClass (top 17) 4)
 d_Program_places : DfP K ai "places" "Program.places" (inClass (top 17) 3)
 d_Program_names : DfP K ai "names" "Program.names" (inClass (top 17) 2)
 kt_Program : ∀ n ∈ (["int","dict","NoneType"] : List String),PySem.W.kitOne K (.type n) (.ref ai) = some false
 st_Program : ∀ n ∈ (["int","dict","NoneType"] : List String),PySem.W.subIn K (.type n) (.ref ai) = some false
 ne_Program : x6 K ai
variable {P : Program} {K : Fr0} {mg : Str -> Option Value} {base : Heap} {aN az aw ai : Addr}
theorem kj : FnScope ["_law_draw","_law_size","_law_found","_law_turn","_law_item","_law_mixed"] ["_law_draw","_law_size"] (defScope (top 23)):=⟨rfl,rfl,rfl,by decide +kernel,rfl,by decide +kernel,by decide +kernel⟩
theorem ado (V : Env K mg base aN az aw ai) : Kn P w K mg base 1 "_law_take" qF []:=by
 refine mX V.d__law_take kj (by rintro ts G Φ ΦE ⟨d,sz,n,G0,lg,it,l,t,ls,is,rfl,_⟩; rfl) fun f cdv A outer s H E ts G Φ ΦE hr ho hsp => ⟨_,(cX (s_if (yQ (wB (aT (dA hr.u64) (aE hr.u9 (aa 0) bQ (fun _ _ => rfl)) cG) (zv (aT (eh hr.u64) (aE hr.u9 (aa 0) bQ (fun _ _ => rfl)) (kJ ea_nil))))) (ei (ka hr.u9 (aa 0) bQ (yD (aE hr.u9 (aa 0) bQ (fun _ _ => rfl)) (ea_cons cG ea_nil)))) j8) (cX (s_if (aT lF (aE hr.u9 (aa 0) bQ (fun _ _ => rfl)) cG) (cX (fu (j:=2) kj.nd rfl (by first | exact .inl rfl | exact .inr rfl) (bZ kF (mm V.b_int (ea_cons (aE hr.u9 (aa 0) bQ (fun _ _ => rfl)) ea_nil)) (aa 1))) (cX (ka hr.u9 (aa 0) bQ (bZ zY (aE hr.u9 (aa 0) bQ (fun _ _ => rfl)) (aa 1))) (ei (s_ret (aa 2))))) j8) (cX (fu (j:=3) kj.nd rfl (by first | exact .inl rfl | exact .inr rfl) (bZ gb (aE hr.u9 (aa 0) bQ (fun _ _ => rfl)) cG)) (cX (ka hr.u9 (aa 0) bQ (aa 3)) (cX (fu (j:=4) kj.nd rfl (by first | exact .inl rfl | exact .inr rfl) cG) (cX (s_if (aT (eh hr.u64) (aE hr.u9 (aa 0) bQ (fun _ _ => rfl)) (kJ ea_nil)) (ei (fu (j:=4) kj.nd rfl (by first | exact .inl rfl | exact .inr rfl) (aE hr.u9 (aE hr.u9 (aa 0) bQ (fun _ _ => rfl)) (bZ kF (mm V.b_int (ea_cons (aa 3) ea_nil)) (cK V.b_len (ea_cons (aE hr.u9 (aa 0) bQ (fun _ _ => rfl)) ea_nil))) (fun _ _ => rfl)))) j8) (cX (fu (j:=5) kj.nd rfl (by first | exact .inl rfl | exact .inr rfl) (bZ kF (mm V.b_int (ea_cons (bZ sx (bZ gb (bZ gb (bZ kF (mm V.b_int (ea_cons (aa 4) ea_nil)) cG) (bZ wi cG (aa 3))) cG) cG) ea_nil)) cG)) (ei (s_ret (bZ kF (bZ zY (bZ kF (mm V.b_int (ea_cons (bZ sx (bZ gb (aa 5) (bZ wi cG (aa 3))) cG) ea_nil)) cG) cG) (aa 1))))))))))),?_⟩
 obtain ⟨d,sz,n,G0,lg,it,l,t,ls,is,rfl,rfl,o,hsz,hn,q⟩:=hsp
 show iW _ _ _ [some (.ref d),some (.int sz),none,none,none,none] _
 have nd:=o.n1
 have hmd : dw = 10 ^ 9:=rfl
 have hints : ∀ xs : List Int,cJ (xs.map T.int):=cJ.ints
 refine sq (M:=fun S' G' => S' = [some (.ref d),some (.int sz),none,none,none,none] /\ ∃ l ls,Opn d lg it l t ls is n /\ G' = aR G0 d lg it l t ls is) ?rest ?first
 case first =>
  intro R hR
  have fin : ∀ G',Sub (aR G0 d lg it l t ls is) G' -> R [some (.ref d),some (.int sz),none,none,none,none] G':=fun G' sb => hR _ _ _ sb ⟨rfl,l,ls,o,rfl⟩
  simp only [DVQ]
  rw [j7 (cU o) rfl mZ]
  simp only [Dv.eqT,dq,if_true]
  by_cases hl0 : l = 0
  . subst hl0
    simp only [decide_true,if_true]
    rw [j7 (cU o) rfl zp]
    refine ⟨Nat.zero_le _,fun p hp => ?_⟩
    have hpd : p ≠ d:=fun z => by rw [z,cU o] at hp; cases hp
    have hpl : p ≠ lg:=fun z => by rw [z,gn o] at hp; cases hp
    have gd : gup (aR G0 d lg it 0 t ls is) p (.lst []) d = some (.dic (bO lg it 0 t)):=by rw [ao hpd.symm]; exact cU o
    have gl : gup (aR G0 d lg it 0 t ls is) p (.lst []) lg = some (.lst (ls.map T.int)):=by rw [ao hpl.symm]; exact gn o
    refine zi gl aH (hints ls) cJ.nil ?_
    cases ls with
    | nil => exact fin _ (Sub.gup hp)
    | cons x ls =>
     simp only [List.map_cons,reduceCtorEq,decide_false,Bool.not_false,if_true]
     refine i6 gd zp ⟨uz gl,abo (n:=0) gl rfl (by decide) rfl ?_⟩
     have e1 : gup (gup (aR G0 d lg it 0 t (x :: ls) is) p (.lst [])) lg (.lst (ls.map T.int)) d = some (.dic (bO lg it 0 t)):=by rw [ao nd]; exact gd
     refine qb e1 qm ?_
     have o2 : Opn d lg it x t ls is n:=⟨o.n1,o.n2,o.n3,fun y hy => o.lpos y (by simp [hy]),o.ipos,o.ilen,by have:=o.llen; simp at this; omega,o.lpos x (by simp),o.t0,o.tn⟩
     refine hR _ _ (aR G0 d lg it x t ls is) ?_ ⟨rfl,x,ls,o2,rfl⟩
     have sb:=((Sub.gup (o:=.lst []) hp).gup2 (a:=lg) (o:=.lst (ls.map T.int))).gup2 (a:=d) (o:=.dic (bO lg it x t))
     rw [aae o,rJ (ls:=ls) ⟨o.n1,o.n2,o.n3,fun y hy => o.lpos y (by simp [hy]),o.ipos,o.ilen,by have:=o.llen; simp at this; omega,o.l0,o.t0,o.tn⟩] at sb
     rw [zq]
     exact sb
  . simp only [T.int.injEq,hl0,decide_false,Bool.false_eq_true,if_false]
    exact fin _ (Sub.refl _)
 case rest =>
  rintro S' G' ⟨rfl,l,ls,o,rfl⟩
  have q2 : ∀ G' r l' t',0 <= r -> r < sz -> Opn d lg it l' t' ls is (n + 1) -> Sub (aR G0 d lg it l' t' ls is) G' -> cI Φ (.int r) G':=fun G' r l' t' h1 h2 o' sb => ⟨_,sb,q r l' t' ls h1 h2 o'⟩
  have on : ∀ {l' t' : Int},0 <= l' -> 0 <= t' -> t' <= t + 1 -> Opn d lg it l' t' ls is (n + 1):=fun h1 h2 h3 => ⟨o.n1,o.n2,o.n3,o.lpos,o.ipos,o.ilen,o.llen,h1,h2,by have:=o.tn; omega⟩
  have md : ∀ i : Int,0 <= i % sz /\ i % sz < sz:=fun i => ⟨Int.emod_nonneg _ (by omega),Int.emod_lt_of_pos _ hsz.1⟩
  refine mV (S1:=[some (.ref d),some (.int sz),none,none,none,none]) (G1:=aR G0 d lg it l t ls is) (fun R hR => ?_) ?_
  . simp only [DVQ]
    rw [j7 (cU o) rfl mZ]
    simp only [iM]
    by_cases hl0 : 0 < l
    . simp only [hl0,decide_true,if_true]
      simp only [DVQ,iW]
      rw [j7 (cU o) rfl mZ]
      simp only [jv,jC]
      refine ⟨hsz.1,_,Sub.refl _,?_⟩
      rw [j7 (cU o) rfl mZ]
      simp only [CDiv]
      refine ⟨⟨hsz.1,by omega⟩,?_⟩
      rw [xO (cU o) rfl]
      refine ⟨qm,?_⟩
      rw [zq,rJ o]
      refine ⟨_,Sub.refl _,?_⟩
      exact q2 _ _ _ _ (md l).1 (md l).2 (on (Int.ediv_nonneg o.l0 (by omega)) o.t0 (by omega)) (Sub.refl _)
    . simp only [hl0,decide_false,Bool.false_eq_true,if_false]
      exact hR _ (Sub.refl _)
  refine mV (S1:=[some (.ref d),some (.int sz),none,some (.int (t + 1)),none,none]) (G1:=aR G0 d lg it l t ls is) (fun R hR => ?_) ?_
  . simp only [DVQ]
    exact i6 (cU o) adN (aaa (hR _ (Sub.refl _)))
  have o1 : Opn d lg it l (t + 1) ls is (n + 1):=on o.l0 (by have:=o.t0; omega) (Int.le_refl _)
  refine mV (S1:=[some (.ref d),some (.int sz),none,some (.int (t + 1)),none,none]) (G1:=aR G0 d lg it l (t + 1) ls is) (fun R hR => ?_) ?_
  . simp only [DVQ,kY]
    refine qb (cU o) qm ?_
    rw [afd,rJ o]
    exact hR _ (Sub.refl _)
  refine mV (S1:=[some (.ref d),some (.int sz),none,some (.int (t + 1)),some (.int 0),none]) (G1:=aR G0 d lg it l (t + 1) ls is) (fun R hR => ?_) ?_
  . simp only [DVQ]
    exact hR _ (Sub.refl _)
  refine sq (M:=fun S' G' => ∃ v : Int,S' = [some (.ref d),some (.int sz),none,some (.int (t + 1)),some (.int v),none] /\ G' = aR G0 d lg it l (t + 1) ls is) ?_ (fun R hR => ?_)
  . rintro S' G' ⟨v,rfl,rfl⟩
    have h0:=o.t0
    have h1:=o.tn
    have hm1 : 0 <= v % 2147483629 /\ v % 2147483629 < 2147483629:=⟨Int.emod_nonneg _ (by omega),Int.emod_lt_of_pos _ (by omega)⟩
    refine sq (M:=fun S' G' => ∃ m : Int,0 <= m /\ m < 2147483647 /\ S' = [some (.ref d),some (.int sz),none,some (.int (t + 1)),some (.int v),some (.int m)] /\ G' = aR G0 d lg it l (t + 1) ls is) ?_ (fun R hR => ?_)
    . rintro S' G' ⟨m,hm,hm2,rfl,rfl⟩
      simp only [DVQ]
      simp only [pX,jP,jC,jv,CPow,CDiv,CMul]
      refine ⟨.inl ⟨by decide,by decide⟩,⟨by decide,by decide,?_⟩,by decide,⟨by decide,by decide⟩,hsz.1,?_⟩
      . rw [hmd] at hn; omega
      . exact q2 _ _ _ _ (md _).1 (md _).2 o1 (Sub.refl _)
    . simp only [DVQ]
      simp only [pX,jP,jC,jv,CPow,CDiv,CMul]
      refine ⟨by decide,.inl ⟨by decide,by decide⟩,⟨by decide,by decide,?_⟩,by decide,?_⟩
      . rw [hmd] at hn; omega
      . exact hR _ _ _ (Sub.refl _) ⟨_,Int.emod_nonneg _ (by decide),Int.emod_lt_of_pos _ (by decide),rfl,rfl⟩
  . simp only [DVQ]
    refine i6 (cU o1) ux ⟨Nat.zero_le _,fun p hp => ?_⟩
    have hpd : p ≠ d:=fun z => by rw [z,cU o1] at hp; cases hp
    have hpi : p ≠ it:=fun z => by rw [z,gF] at hp; cases hp
    have gd : gup (aR G0 d lg it l (t + 1) ls is) p (.lst []) d = some (.dic (bO lg it l (t + 1))):=by rw [ao hpd.symm]; exact cU o1
    have gi : gup (aR G0 d lg it l (t + 1) ls is) p (.lst []) it = some (.lst (is.map T.int)):=by rw [ao hpi.symm]; exact gF
    refine zi gi aH (hints is) cJ.nil ?_
    cases is with
    | nil => exact hR _ _ _ (Sub.gup hp) ⟨0,rfl,rfl⟩
    | cons x is =>
     simp only [List.map_cons,reduceCtorEq,decide_false,Bool.not_false,if_true]
     refine i6 gd ux ?_
     simp only [jv]
     refine i6 gd ux (qx gi ⟨by simp,?_⟩)
     have hl : (0 : Int) < ((List.map T.int (x :: is)).length : Int):=by simp
     generalize hj : (t + 1) % ((List.map T.int (x :: is)).length : Int) = j
     have hj0 : 0 <= j:=by rw [<- hj]; exact Int.emod_nonneg _ (by omega)
     have hj1 : j < ((List.map T.int (x :: is)).length : Int):=by rw [<- hj]; exact Int.emod_lt_of_pos _ hl
     obtain ⟨m,rfl⟩:=Int.eq_ofNat_of_zero_le hj0
     have hm : m < (x :: is).length:=by rw [List.length_map] at hj1; omega
     refine xP (t:=.int (x :: is)[m]) gi ?_ (hR _ _ _ (Sub.gup hp) ⟨_,rfl,rfl⟩)
     rw [hj,wF (xs:=List.map T.int (x :: is)) (n:=m) (by simpa using hm),List.getElem?_map,List.getElem?_eq_getElem hm]
     rfl
theorem oU (V : Env K mg base aN az aw ai) : Kn P w K mg base 1 "_law_take" oG []:=adb (ado V)
theorem kR : FnScope ["_law_script","_law_items","_law_item"] ["_law_script"] (defScope (top 22)):=⟨rfl,rfl,rfl,by decide +kernel,rfl,by decide +kernel,by decide +kernel⟩
theorem adL (V : Env K mg base aN az aw ai) : KnB P w K mg base 1 "_law_begin" oJ:=by
 refine abu (ad4 V.d__law_begin kR rfl fun f cdv A outer s H E G Φ ΦE a ns hr ho hn hS hsp => ⟨_,(cX (wR (j:=1) [("_law_item",2)] kR.nd (acG (fun H G g => (hS H G g).sq) (aa 0)) (fun _ _ _ _ _ => (gm (j:=2) kR.nd rfl (by first | exact .inl rfl | exact .inr rfl))) (fun _ _ _ _ _ => jr) (fun _ _ _ _ _ => (acd V.b_abs (ea_cons (aa 2) ea_nil)))) (ei (s_ret (aaj (ou bQ (jq [("_law_item",2)] kR.nd (gh (aa 1)) (fun _ _ _ _ _ => (gm (j:=2) kR.nd rfl (by first | exact .inl rfl | exact .inr rfl))) (fun _ _ _ _ _ => (wW (aT zF (aa 2) (bZ sx cG cG)))) (fun _ _ _ _ _ => (aa 2))) (ou bQ (aa 1) (ou bQ cG (ou bQ cG afk)))))))),?_⟩)
 obtain ⟨a',e,q⟩:=hsp
 show iW _ _ _ [some (.ref a),none,none] _
 refine sq (M:=fun S' G' => ∃ p,G p = none /\ S' = [some (.ref a),some (.ref p),none] /\ G' = gup G p (.lst ((ns.map fun i => if i < 0 then -i else i).map T.int))) ?_ (fun R hR => ?_)
 . rintro S' G' ⟨p,hp,rfl,rfl⟩
   simp only [DVQ]
   refine xh aH (w7 (fun t => match t with | .int i => decide (10 ^ 18 <= i) | _ => false) id aH (by rw [List.length_map,List.length_map,sizeLine_eq]; omega) (fun t ht => ?_) ?_)
   . obtain ⟨i,_,rfl⟩:=List.mem_map.mp ht
     refine ⟨_,rfl,fun Φ h => ?_,fun _ G' sb Φ h => h _ (Sub.refl _)⟩
     simp only [DVQ]
     exact ⟨⟨by decide,by decide,by decide⟩,h _ (Sub.refl _)⟩
   . intro p1 hp1
     have n3 : p1 ≠ p:=fresh_ne aH hp1
     refine ⟨rfl,(by decide : (4 : Nat) <= 15),fun d hd => ?_⟩
     have n1 : d ≠ p1:=fresh_ne aH hd
     rw [ao n1] at hd
     have n2 : d ≠ p:=fresh_ne aH hd
     rw [ao n2] at hd
     rw [ao n3] at hp1
     have hpos : ∀ x ∈ ns.map fun i => if i < 0 then -i else i,0 <= x:=by
      intro x hx
      obtain ⟨i,_,rfl⟩:=List.mem_map.mp hx
      split <;> omega
     have e1 : (List.filter (fun t => match t with | .int i => decide (10 ^ 18 <= i) | _ => false) (List.map T.int (ns.map fun i => if i < 0 then -i else i))).map id = ((ns.map fun i => if i < 0 then -i else i).filter fun i => decide (10 ^ 18 <= i)).map T.int:=by
      rw [List.map_id,List.filter_map]
      rfl
     rw [e1]
     have qq:=q d p1 p ((ns.map fun i => if i < 0 then -i else i).filter fun i => decide (10 ^ 18 <= i)) _ hd hp1 hp ⟨n1,n2,n3,fun x hx => hpos x (List.mem_filter.mp hx).1,hpos,by simpa using hn,Nat.le_trans (List.length_filter_le _ _) (by simpa using hn),Int.le_refl _,Int.le_refl _,Int.le_refl _⟩
     rw [<- adR n1 n2 n3] at qq
     exact cI.of qq
 . simp only [DVQ]
   refine ⟨trivial,?_⟩
   refine w7 (fun _ => true) (fun t => match t with | .int i => .int (if i < 0 then -i else i) | t => t) trivial (by rw [List.length_map,sizeLine_eq]; omega) (fun t ht => ?_) ?_
   . obtain ⟨i,_,rfl⟩:=List.mem_map.mp ht
     exact ⟨_,rfl,fun Φ h => h _ (Sub.refl _),fun _ G' sb Φ h => h _ (Sub.refl _)⟩
   . intro p hp
     refine hR _ _ _ (Sub.refl _) ⟨p,hp,rfl,?_⟩
     congr 2
     rw [List.map_map,List.filter_eq_self.mpr (fun _ _ => rfl),List.map_map]
     rfl
theorem y9 : FnScope ["_law_draw","_law_some"] ["_law_draw","_law_some"] (defScope (top 24)):=⟨rfl,rfl,rfl,by decide +kernel,rfl,by decide +kernel,by decide +kernel⟩
theorem yP (V : Env K mg base aN az aw ai) : Kn P w K mg base 2 "_law_pick" adA []:=by
 refine mX V.d__law_pick y9 (by rintro ts G Φ ΦE ⟨d,a,n,xs,rfl,_⟩; rfl) fun f cdv A outer s H E ts G Φ ΦE hr ho hsp => ⟨_,(ei (s_ret (aE hr.u9 (aa 1) (aY (oU V) (hr.mono (by decide)) (ea_cons (aa 0) (ea_cons (cK V.b_len (ea_cons (aa 1) ea_nil)) ea_nil))) (fun _ _ => rfl)))),?_⟩
 obtain ⟨d,a,n,xs,rfl,hd,ha,h0,hl,hn,q⟩:=hsp
 show nK _ _ [some (.ref d),some (.ref a)] _
 have nda : a ≠ d:=fun z => by rw [z,hd] at ha; cases ha
 simp only [DVQ]
 refine qx ha ⟨d,_,n,rfl,hd,⟨by omega,by omega⟩,hn,fun r h1 h2 => ?_⟩
 obtain ⟨m,rfl⟩:=Int.eq_ofNat_of_zero_le h1
 have hm : m < xs.length:=by omega
 have e : gup G d (.drw (n + 1)) a = some (.lst xs):=by rw [ao nda]; exact ha
 exact xP e (by rw [wF hm,List.getElem?_eq_getElem hm]) (cI.of (q _ (List.getElem_mem hm)))
theorem fS (V : Env K mg base aN az aw ai) : c9 P w K mg base 1 "_law_take" 2 [0] eK:=(oU V).imp adx
def nP : SpV:=fun σ Ψ _ => ∃ n p ps,σ 0 = some (.ab (drw n)) /\ σ 1 = some (.fr p) /\ mI p = some ps /\ 0 < ps.length /\ ps.length <= 20000 /\ n < dw /\ ∀ q ∈ ps,Ψ (.fr q) (bt (n + 1))
theorem iG {σ : SV} {n : Nat} (h : σ 0 = some (.ab (drw n))) : bN [0] σ = bt n:=by
 funext i
 unfold bN bt aW bp
 cases i with
 | zero => simp [h]
 | succ i => simp
theorem atI_nat {α : Type} {xs : List α} {j : Nat} (h : j < xs.length) : atI xs (j : Int) = some xs[j]:=by
 unfold atI
 have : ixN xs.length (j : Int) = some j:=by
  unfold ixN
  simp
  omega
 rw [this]
 exact List.getElem?_eq_getElem h
theorem uG (V : Env K mg base aN az aw ai) : c9 P w K mg base 2 "_law_pick" 2 [0] nP:=by
 refine eA (io:=[0]) V.d__law_pick y9 rfl (by decide) fun f cdv A outer s H E en hr => ⟨_,(aq (aZ (ev_op (fun _ _ h k => aE hr.u9 h k (fun _ _ => rfl)) aS (ev_var (aa 1)) (ev_call (fun _ => .nil) (fun _ h => aY (fS V) (hr.mono (by decide)) h) (ae (ev_var (aa 0)) (ae (ev_cb (fun _ h => cK V.b_len h) dB (ae (ev_var (aa 1)) ah)) ah)))))),?_⟩
 rintro σ Ψ ΨE ⟨n,p,ps,h0,h1,hp,l0,l1,hn,q⟩
 have hz : ps.length <= sizeLine:=by rw [sizeLine_eq]; omega
 simp only [mI] at hp
 split at hp <;> cases hp
 . simp only [VVQ,h0,h1,eK]
   refine ⟨n,_,rfl,rfl,⟨by omega,by omega⟩,hn,fun r h2 h3 => ?_⟩
   obtain ⟨j,rfl⟩:=Int.eq_ofNat_of_zero_le h2
   have hj : j < ps.length:=by omega
   simp only [VVQ,bt,aW,h1,atI_nat hj]
   rw [iG (n:=n + 1) rfl]
   exact q _ (List.getElem_mem hj)
 . simp only [VVQ,h0,h1,eK]
   refine ⟨n,_,rfl,rfl,⟨by omega,by omega⟩,hn,fun r h2 h3 => ?_⟩
   obtain ⟨j,rfl⟩:=Int.eq_ofNat_of_zero_le h2
   have hj : j < ps.length:=by omega
   simp only [VVQ,bt,aW,h1,atI_nat hj]
   rw [iG (n:=n + 1) rfl]
   exact q _ (List.getElem_mem hj)
 . rename_i z
   rw [List.length_map] at l0 l1 hz
   simp only [VVQ,h0,h1,eK]
   have zl : z.length = z.cps.toList.length:=by rw [Array.length_toList]; rfl
   refine ⟨by rw [zl]; exact hz,n,_,rfl,rfl,⟨by omega,by omega⟩,hn,fun r h2 h3 => ?_⟩
   obtain ⟨j,rfl⟩:=Int.eq_ofNat_of_zero_le h2
   have hj : j < z.cps.toList.length:=by omega
   simp only [VVQ,bt,aW,h1,atI_nat hj]
   rw [iG (n:=n + 1) rfl]
   exact ⟨by rw [zl]; exact hz,q _ (List.mem_map.mpr ⟨_,List.getElem_mem hj,rfl⟩)⟩
def kr (ps : List PV) : Prop:=∀ p ∈ ps,au p = true /\ aJ p <= 60
theorem kr.perm {ps qs : List PV} (h : kr ps) (e : qs.Perm ps) : kr qs:=fun p hp => h p (e.subset hp)
theorem mC {ps : List PV} (h : kr ps) : Cmp (.lst ps) (.lst []):=.inr ⟨by rw [au]; exact gO.mpr fun t ht => (h t ht).1,rfl,by cases ps <;> simp [bh,eQ],by rw [aJ]; have:=gB fun t ht => (h t ht).2; omega,by decide⟩
theorem wu : ∀ (l : List PV) (i : Nat) (h : i < l.length),([l[i]] ++ l.eraseIdx i).Perm l
 | [],_,h => absurd h (Nat.not_lt_zero _)
 | x :: l,0,_ => List.Perm.refl _
 | x :: l,i + 1,h => by
  have hi : i < l.length:=by simpa using h
  have ih:=wu l i hi
  simp only [List.getElem_cons_succ,List.eraseIdx_cons_succ,List.singleton_append] at ih ⊢
  exact (List.Perm.swap x l[i] _).trans (List.Perm.cons x ih)
def qG : SpV:=fun σ Ψ _ => ∃ n ps,σ 0 = some (.ab (drw n)) /\ σ 1 = some (.fr (.lst ps)) /\ kr ps /\ ps.length <= 1000 /\ n + ps.length < dw /\ ∀ ys,ys.Perm ps -> Ψ (.ow (.lst ys)) (bt (n + ps.length))
theorem wV : FnScope ["_law_draw","_law_some","_law_left","_law_found"] ["_law_draw","_law_some"] (defScope (top 25)):=⟨rfl,rfl,rfl,by decide +kernel,rfl,by decide +kernel,by decide +kernel⟩
theorem wa (V : Env K mg base aN az aw ai) : c9 P w K mg base 2 "_law_shuffled" 2 [0] qG:=by
 refine eA (io:=[0]) V.d__law_shuffled wV rfl (by decide) fun f cdv A outer s H E en hr => ⟨_,(aF (zz (j:=2) (k:=3) rfl wV.nd rfl rfl (by decide) rfl rfl (ev_cb (fun _ h => gY V.b_list h) nU (ae (ev_var (aa 1)) ah)) (dv ah) rfl) (aF (afc (passes_of rfl) (bv (fun _ _ h k => aT (eh hr.u64) h k) fy.v (ev_var (aa 2)) (dv ah)) (aq (eE (fG (i:=3) (fun _ h => fX (aa 3) h) iF (ae (fG (i:=2) (fun _ h => yD (aa 2) h) aet (ae (ev_call (fun _ => .nil) (fun _ h => aY (fS V) (hr.mono (by decide)) h) (ae (ev_var (aa 0)) (ae (ev_cb (fun _ h => cK V.b_len h) dB (ae (ev_var (aa 2)) ah)) ah))) ah)) ah))))) (aq (aZ (ev_var (aa 3)))))),?_⟩
 rintro σ Ψ ΨE ⟨n,ps,h0,h1,hok,hl,hn,q⟩
 have hz : ∀ m : Nat,m <= 20000 -> m <= sizeLine:=fun m h => by rw [sizeLine_eq]; omega
 refine a8 (M:=fun τ => τ 0 = some (.ab (drw n)) /\ τ 2 = some (.ow (.lst ps)) /\ τ 3 = some (.ow (.lst []))) ?_ fun R hR => ?_
 . rintro τ ⟨e0,e1,e2⟩
   refine a8 (M:=fun τ => ∃ ys,τ 0 = some (.ab (drw (n + ps.length))) /\ τ 3 = some (.ow (.lst ys)) /\ ys.Perm ps) ?_ fun R hR => ?_
   . rintro τ ⟨ys,e0,e1,hp⟩
     simp only [VVQ,e1]
     simp only [iG e0]
     exact q ys hp
   . refine ⟨fun m τ => ∃ ls ys,τ 0 = some (.ab (drw (n + ys.length))) /\ τ 2 = some (.ow (.lst ls)) /\ τ 3 = some (.ow (.lst ys)) /\ (ys ++ ls).Perm ps /\ m = ls.length,⟨ps.length,ps,[],e0,e1,e2,.refl _,rfl⟩,?_⟩
     rintro m τ ⟨ls,ys,e0,e1,e2,hp,rfl⟩
     have hlen : ys.length + ls.length = ps.length:=by rw [<- List.length_append]; exact hp.length_eq
     simp only [VVQ,e0,e1,e2]
     refine ⟨hz 0 (by decide),mC fun p hp' => hok p (hp.subset (List.mem_append.mpr (.inr hp'))),?_⟩
     cases ls with
     | nil =>
      simp only [decide_true,Bool.not_true,Bool.false_eq_true,if_false]
      exact hR _ ⟨ys,by rw [e0]; simp at hlen; rw [hlen],e2,by simpa using hp⟩
     | cons x ls =>
      simp only [PV.lst.injEq,reduceCtorEq,decide_false,Bool.not_false,if_true]
      have hmd : dw = 10 ^ 9:=rfl
      have hlen':=hlen
      rw [List.length_cons] at hlen'
      refine ⟨n + ys.length,_,e0,rfl,⟨by rw [List.length_cons]; omega,by rw [List.length_cons]; omega⟩,by omega,fun r h2 h3 => ?_⟩
      simp only [VVQ,bt,e0,e1,e2]
      obtain ⟨j,rfl⟩:=Int.eq_ofNat_of_zero_le h2
      have hj : j < (x :: ls).length:=by omega
      rw [Int.toNat_natCast,List.getElem?_eq_getElem hj]
      rw [List.length_cons] at hj
      refine ⟨⟨h2,by omega⟩,by rw [sizeLine_eq]; omega,_,?_,_,ys ++ [(x :: ls)[j]],by simp [Nat.add_assoc],rfl,rfl,?_,rfl⟩
      . rw [List.length_eraseIdx]; simp [hj]
      . refine List.Perm.trans ?_ hp
        rw [List.append_assoc]
        exact (wu (x :: ls) j hj).append_left ys
 . simp only [VVQ,h1]
   exact ⟨hz 0 (by decide),hR _ ⟨by simpa [ac] using h0,by simp [ac],by simp [ac]⟩⟩
end K02
namespace K02
open PySem PySem.Spec PyProof.Rows L2 Dv Vl
def LawOk : Prop:=∀ [Dv.Wld] {P : Program} {K : Fr0} {mg : Str -> Option Value} {base : Heap} {aN az aw ai : Addr} {f : Addr} {fd : FuncData} (F : Fun K "law" "law" (top 31) f fd) (V : Env K mg base aN az aw ai),FnG P w K mg base (L2.CX P w) 60 f fd ["_law_script"] (eY K ir)
variable [Dv.Wld]
theorem aaO {K : Fr0} {a : Addr} {ns : List Int} {H : Hp} (hl : ns.length <= 63) (hO : Only H) (hS : SqL K H a (ns.map V.int)) : eY K ir [.ref a] H (fun v _ => v = .bl true) fun _ _ _ => False:=by
 refine ⟨a,ns,fun _ => none,fun t _ => t = .bl true,fun _ _ _ => False,rfl,eL.of hO hS,hl,⟨fun a o e => (by cases e),fun d n b e => (by cases e),fun d d' n n' e => (by cases e),(fun e he => by cases he),TabsOk.none rfl⟩,⟨a,rfl,(fun d n z => by cases z),rfl⟩,fun t G' v H' e r _ _ => ?_,fun _ _ _ _ _ _ z => z.elim⟩
 subst e
 cases r
 rfl
theorem afm {P : Program} {w : World} {H : Hp} {s : Shared} {e : Value} {s' : Shared} (h : L2.CX P w [] H s (fun _ _ _ => False) e s') : False:=by
 obtain ⟨_,_,_,_,_,_,_,_,_,_,_,_,z⟩:=h
 exact z
theorem all_mk {P : Program} {K : Fr0} {h : Heap} {mg : Str -> Option Value} {fa : Addr} (hlaw : LawOk) (X : K.In h) (G : h.Ns mainGlobals mg) (hfa : mg "law" = some (.ref fa))
 {jo0 : Tok}
 {tMAIN : Tok}
 {jp0 : Tok}
 {jq0 : Tok}
 {jr0 : Tok}
 {ai0 : Addr} {js0 jt0 ju0 jv0 im0 jw0 : Value} {jx0 jy0 : Option Addr} {jz0 : Array (Option Value)}
 {aj0 : Addr} {ka0 kb0 kc0 kd0 in0 ke0 : Value} {kf0 kg0 : Option Addr} {kh0 : Array (Option Value)}
 {ak0 : Addr} {ki0 kj0 kk0 kl0 io0 km0 : Value} {kn0 ko0 : Option Addr} {kp0 : Array (Option Value)}
 {al0 : Addr} {kq0 kr0 ks0 kt0 ip0 ku0 : Value} {kv0 kw0 : Option Addr} {kx0 : Array (Option Value)}
 {am0 : Addr} {ky0 kz0 la0 lb0 iq0 lc0 : Value} {ld0 le0 : Option Addr} {lf0 : Array (Option Value)}
 {an0 : Addr} {lg0 lh0 li0 lj0 ir0 lk0 : Value} {ll0 lm0 : Option Addr} {ln0 : Array (Option Value)}
 {ao0 : Addr} {lo0 lp0 lq0 lr0 is0 ls0 : Value} {lt0 lu0 : Option Addr} {lv0 : Array (Option Value)}
 {ap0 : Addr} {lw0 lx0 ly0 lz0 it0 ma0 : Value} {mb0 mc0 : Option Addr} {md0 : Array (Option Value)}
 {aq0 : Addr} {me0 mf0 mg0 mh0 iu0 mi0 : Value} {mj0 mk0 : Option Addr} {ml0 : Array (Option Value)}
 {ar0 : Addr} {mm0 mn0 mo0 mp0 iv0 mq0 : Value} {mr0 ms0 : Option Addr} {mt0 : Array (Option Value)}
 {as0 : Addr} {mu0 mv0 mw0 mx0 iw0 my0 : Value} {mz0 na0 : Option Addr} {nb0 : Array (Option Value)}
 {at0 : Addr} {nc0 nd0 ne0 nf0 ix0 ng0 : Value} {nh0 ni0 : Option Addr} {nj0 : Array (Option Value)}
 {au0 : Addr} {nk0 nl0 nm0 nn0 iy0 no0 : Value} {np0 nq0 : Option Addr} {nr0 : Array (Option Value)}
 {av0 : Addr} {ns0 nt0 nu0 nv0 iz0 nw0 : Value} {nx0 ny0 : Option Addr} {nz0 : Array (Option Value)}
 {aw0 : Addr} {oa0 ob0 oc0 od0 ja0 oe0 : Value} {of0 og0 : Option Addr} {oh0 : Array (Option Value)}
 {ax0 : Addr} {oi0 oj0 ol0 om0 jb0 on0 : Value} {oo0 op0 : Option Addr} {oq0 : Array (Option Value)}
 {ay0 : Addr} {or0 os0 ot0 ou0 jc0 ov0 : Value} {ow0 ox0 : Option Addr} {oy0 : Array (Option Value)}
 {flaw : Addr} {oclaw kVlaw dclaw pmlaw cdlaw ctlaw : Value} {odlaw anlaw : Option Addr} {sllaw : Array (Option Value)}
 {ai : Addr}
 {a0 : Addr} {oz0 pa0 pb0 pc0 jd0 pd0 : Value} {pe0 pf0 : Option Addr} {pg0 : Array (Option Value)}
 {n0 : Addr} {ph0 pi0 pj0 pk0 je0 pl0 : Value} {pm0 pn0 : Option Addr} {po0 : Array (Option Value)}
 {o0 : Addr} {pp0 pq0 pr0 ps0 jf0 pt0 : Value} {pu0 pv0 : Option Addr} {pw0 : Array (Option Value)}
 {u0 : Addr} {px0 py0 pz0 qa0 jg0 qb0 : Value} {qc0 qd0 : Option Addr} {qe0 : Array (Option Value)}
 {y0 : Addr} {qf0 : List Value}
 {az0 : Addr} {qg0 qh0 qi0 qj0 jh0 qk0 : Value} {ql0 qm0 : Option Addr} {qn0 : Array (Option Value)}
 {z0 : Addr} {qo0 : List Value}
 {ba0 : Addr} {qp0 qq0 qr0 qs0 ji0 qt0 : Value} {qu0 qv0 : Option Addr} {qw0 : Array (Option Value)}
 {aa0 : Addr} {qx0 : List Value}
 {bb0 : Addr} {qy0 qz0 ra0 rb0 jj0 rc0 : Value} {rd0 re0 : Option Addr} {rf0 : Array (Option Value)}
 {aN : Addr}
 {az : Addr}
 {aw : Addr}
 {rg0 rh0 : Str} {ri0 : Addr} {rj0 jk0 rk0 : List Value} {rl0 : List Str} {rm0 : Bool} {rn0 : Option Bool} {ro0 : Option Addr} {rp0 rq0 rr0 rs0 rt0 : Option Value}
 {ab0 : Addr} {ru0 rv0 rw0 rx0 jl0 ry0 : Value} {rz0 sa0 : Option Addr} {sb0 : Array (Option Value)}
 {sc0 sd0 : Str} {se0 : Addr} {sf0 jm0 sg0 : List Value} {sh0 : List Str} {si0 : Bool} {sj0 : Option Bool} {sk0 : Option Addr} {sl0 sm0 sn0 so0 sp0 : Option Value}
 {ac0 : Addr} {sq0 sr0 ss0 su0 jn0 sv0 : Value} {sw0 sx0 : Option Addr} {sy0 : Array (Option Value)}
 (z_len : PySem.W.nsIn K mainGlobals "len" = some none)
 (z_abs : PySem.W.nsIn K mainGlobals "abs" = some none)
 (z_int : PySem.W.nsIn K mainGlobals "int" = some none)
 (es0 : PySem.W.nsIn K mainGlobals "list" = some none)
 (et0 : PySem.W.nsIn K mainGlobals "tuple" = some none)
 (eu0 : PySem.W.nsIn K mainGlobals "sorted" = some none)
 (ev0 : PySem.W.nsIn K mainGlobals "isinstance" = some none)
 (ew0 : PySem.W.nsIn K mainGlobals "range" = some none)
 (ex0 : PySem.W.nsIn K mainGlobals "enumerate" = some none)
 (z_zip : PySem.W.nsIn K mainGlobals "zip" = some none)
 (z_str : PySem.W.nsIn K mainGlobals "str" = some none)
 (ey0 : PySem.W.nsIn K mainGlobals "bool" = some none)
 (z_set : PySem.W.nsIn K mainGlobals "set" = some none)
 (ez0 : PySem.W.nsIn K mainGlobals "dict" = some none)
 (fa0 : PySem.W.nsIn K mainGlobals "ValueError" = some none)
 (fb0 : PySem.W.nsIn K mainGlobals "LETTERS" = some (some (.str "abcdefghijklmnopqrstuvwxyz" jo0)))
 (gMAIN : PySem.W.nsIn K mainGlobals "MAIN" = some (some (.str "main" tMAIN)))
 (fc0 : PySem.W.nsIn K mainGlobals "MOST_PROCEDURES" = some (some (.int 6 jp0)))
 (fd0 : PySem.W.nsIn K mainGlobals "MOST_NODES" = some (some (.int 12 jq0)))
 (fe0 : PySem.W.nsIn K mainGlobals "MOST_BLOCKS" = some (some (.int 6 jr0)))
 (ff0 : PySem.W.nsIn K mainGlobals "is_integer" = some (some (.ref ai0)))
 (bc0 : K.lookup ai0 = some ⟨js0,jx0,.func (PySem.W.fnOf "is_integer" "is_integer" (defArgs (top 12)) (defBody (top 12)) (defScope (top 12)) .none jt0 ju0 jv0 jy0 im0 jw0),jz0⟩)
 (bd0 : PySem.W.codeIn K im0 "is_integer" = true)
 (be0 : PySem.W.keepIn K (.ref ai0) = true)
 (fg0 : PySem.W.nsIn K mainGlobals "is_name" = some (some (.ref aj0)))
 (bf0 : K.lookup aj0 = some ⟨ka0,kf0,.func (PySem.W.fnOf "is_name" "is_name" (defArgs (top 13)) (defBody (top 13)) (defScope (top 13)) .none kb0 kc0 kd0 kg0 in0 ke0),kh0⟩)
 (bg0 : PySem.W.codeIn K in0 "is_name" = true)
 (bh0 : PySem.W.keepIn K (.ref aj0) = true)
 (fh0 : PySem.W.nsIn K mainGlobals "are_indexes" = some (some (.ref ak0)))
 (bi0 : K.lookup ak0 = some ⟨ki0,kn0,.func (PySem.W.fnOf "are_indexes" "are_indexes" (defArgs (top 14)) (defBody (top 14)) (defScope (top 14)) .none kj0 kk0 kl0 ko0 io0 km0),kp0⟩)
 (bj0 : PySem.W.codeIn K io0 "are_indexes" = true)
 (bk0 : PySem.W.keepIn K (.ref ak0) = true)
 (fi0 : PySem.W.nsIn K mainGlobals "is_node" = some (some (.ref al0)))
 (bl0 : K.lookup al0 = some ⟨kq0,kv0,.func (PySem.W.fnOf "is_node" "is_node" (defArgs (top 15)) (defBody (top 15)) (defScope (top 15)) .none kr0 ks0 kt0 kw0 ip0 ku0),kx0⟩)
 (bm0 : PySem.W.codeIn K ip0 "is_node" = true)
 (bn0 : PySem.W.keepIn K (.ref al0) = true)
 (fj0 : PySem.W.nsIn K mainGlobals "need_procedures" = some (some (.ref am0)))
 (bo0 : K.lookup am0 = some ⟨ky0,ld0,.func (PySem.W.fnOf "need_procedures" "need_procedures" (defArgs (top 16)) (defBody (top 16)) (defScope (top 16)) .none kz0 la0 lb0 le0 iq0 lc0),lf0⟩)
 (bp0 : PySem.W.codeIn K iq0 "need_procedures" = true)
 (bq0 : PySem.W.keepIn K (.ref am0) = true)
 (fk0 : PySem.W.nsIn K mainGlobals "is_place" = some (some (.ref an0)))
 (br0 : K.lookup an0 = some ⟨lg0,ll0,.func (PySem.W.fnOf "is_place" "is_place" (defArgs (top 18)) (defBody (top 18)) (defScope (top 18)) .none lh0 li0 lj0 lm0 ir0 lk0),ln0⟩)
 (bs0 : PySem.W.codeIn K ir0 "is_place" = true)
 (bt0 : PySem.W.keepIn K (.ref an0) = true)
 (fl0 : PySem.W.nsIn K mainGlobals "need_place" = some (some (.ref ao0)))
 (bu0 : K.lookup ao0 = some ⟨lo0,lt0,.func (PySem.W.fnOf "need_place" "need_place" (defArgs (top 19)) (defBody (top 19)) (defScope (top 19)) .none lp0 lq0 lr0 lu0 is0 ls0),lv0⟩)
 (bv0 : PySem.W.codeIn K is0 "need_place" = true)
 (bw0 : PySem.W.keepIn K (.ref ao0) = true)
 (fm0 : PySem.W.nsIn K mainGlobals "need_procedure" = some (some (.ref ap0)))
 (bx0 : K.lookup ap0 = some ⟨lw0,mb0,.func (PySem.W.fnOf "need_procedure" "need_procedure" (defArgs (top 20)) (defBody (top 20)) (defScope (top 20)) .none lx0 ly0 lz0 mc0 it0 ma0),md0⟩)
 (by0 : PySem.W.codeIn K it0 "need_procedure" = true)
 (bz0 : PySem.W.keepIn K (.ref ap0) = true)
 (fn0 : PySem.W.nsIn K mainGlobals "_law_begin" = some (some (.ref aq0)))
 (ca0 : K.lookup aq0 = some ⟨me0,mj0,.func (PySem.W.fnOf "_law_begin" "_law_begin" (defArgs (top 22)) (defBody (top 22)) (defScope (top 22)) .none mf0 mg0 mh0 mk0 iu0 mi0),ml0⟩)
 (cb0 : PySem.W.codeIn K iu0 "_law_begin" = true)
 (cc0 : PySem.W.keepIn K (.ref aq0) = true)
 (fo0 : PySem.W.nsIn K mainGlobals "_law_take" = some (some (.ref ar0)))
 (cd0 : K.lookup ar0 = some ⟨mm0,mr0,.func (PySem.W.fnOf "_law_take" "_law_take" (defArgs (top 23)) (defBody (top 23)) (defScope (top 23)) .none mn0 mo0 mp0 ms0 iv0 mq0),mt0⟩)
 (ce0 : PySem.W.codeIn K iv0 "_law_take" = true)
 (cf0 : PySem.W.keepIn K (.ref ar0) = true)
 (fp0 : PySem.W.nsIn K mainGlobals "_law_pick" = some (some (.ref as0)))
 (cg0 : K.lookup as0 = some ⟨mu0,mz0,.func (PySem.W.fnOf "_law_pick" "_law_pick" (defArgs (top 24)) (defBody (top 24)) (defScope (top 24)) .none mv0 mw0 mx0 na0 iw0 my0),nb0⟩)
 (ch0 : PySem.W.codeIn K iw0 "_law_pick" = true)
 (ci0 : PySem.W.keepIn K (.ref as0) = true)
 (fq0 : PySem.W.nsIn K mainGlobals "_law_shuffled" = some (some (.ref at0)))
 (cj0 : K.lookup at0 = some ⟨nc0,nh0,.func (PySem.W.fnOf "_law_shuffled" "_law_shuffled" (defArgs (top 25)) (defBody (top 25)) (defScope (top 25)) .none nd0 ne0 nf0 ni0 ix0 ng0),nj0⟩)
 (ck0 : PySem.W.codeIn K ix0 "_law_shuffled" = true)
 (cl0 : PySem.W.keepIn K (.ref at0) = true)
 (fr0 : PySem.W.nsIn K mainGlobals "_law_next" = some (some (.ref au0)))
 (cm0 : K.lookup au0 = some ⟨nk0,np0,.func (PySem.W.fnOf "_law_next" "_law_next" (defArgs (top 26)) (defBody (top 26)) (defScope (top 26)) .none nl0 nm0 nn0 nq0 iy0 no0),nr0⟩)
 (cn0 : PySem.W.codeIn K iy0 "_law_next" = true)
 (co0 : PySem.W.keepIn K (.ref au0) = true)
 (fs0 : PySem.W.nsIn K mainGlobals "_law_nodes" = some (some (.ref av0)))
 (cp0 : K.lookup av0 = some ⟨ns0,nx0,.func (PySem.W.fnOf "_law_nodes" "_law_nodes" (defArgs (top 27)) (defBody (top 27)) (defScope (top 27)) .none nt0 nu0 nv0 ny0 iz0 nw0),nz0⟩)
 (cq0 : PySem.W.codeIn K iz0 "_law_nodes" = true)
 (cr0 : PySem.W.keepIn K (.ref av0) = true)
 (ft0 : PySem.W.nsIn K mainGlobals "_law_parts" = some (some (.ref aw0)))
 (cs0 : K.lookup aw0 = some ⟨oa0,of0,.func (PySem.W.fnOf "_law_parts" "_law_parts" (defArgs (top 28)) (defBody (top 28)) (defScope (top 28)) .none ob0 oc0 od0 og0 ja0 oe0),oh0⟩)
 (ct0 : PySem.W.codeIn K ja0 "_law_parts" = true)
 (cu0 : PySem.W.keepIn K (.ref aw0) = true)
 (fu0 : PySem.W.nsIn K mainGlobals "_law_looks" = some (some (.ref ax0)))
 (cv0 : K.lookup ax0 = some ⟨oi0,oo0,.func (PySem.W.fnOf "_law_looks" "_law_looks" (defArgs (top 29)) (defBody (top 29)) (defScope (top 29)) .none oj0 ol0 om0 op0 jb0 on0),oq0⟩)
 (cw0 : PySem.W.codeIn K jb0 "_law_looks" = true)
 (cx0 : PySem.W.keepIn K (.ref ax0) = true)
 (fv0 : PySem.W.nsIn K mainGlobals "_law_changed" = some (some (.ref ay0)))
 (cy0 : K.lookup ay0 = some ⟨or0,ow0,.func (PySem.W.fnOf "_law_changed" "_law_changed" (defArgs (top 30)) (defBody (top 30)) (defScope (top 30)) .none os0 ot0 ou0 ox0 jc0 ov0),oy0⟩)
 (cz0 : PySem.W.codeIn K jc0 "_law_changed" = true)
 (da0 : PySem.W.keepIn K (.ref ay0) = true)
 (alaw : PySem.W.nsIn K mainGlobals "law" = some (some (.ref flaw)))
 (llaw : K.lookup flaw = some ⟨oclaw,odlaw,.func (PySem.W.fnOf "law" "law" (defArgs (top 31)) (defBody (top 31)) (defScope (top 31)) .none kVlaw dclaw pmlaw anlaw cdlaw ctlaw),sllaw⟩)
 (claw : PySem.W.codeIn K cdlaw "law" = true)
 (klaw : PySem.W.keepIn K (.ref flaw) = true)
 (db0 : PySem.W.nsIn K mainGlobals "Program" = some (some (.ref ai)))
 (dc0 : PySem.W.plainGet K ai Str.empty = true)
 (dd0 : PySem.W.hasDictIn K ai = true)
 (de0 : PySem.W.plainOver K ai = true)
 (df0 : PySem.W.findIn K (.ref ai) "__setattr__" = some (some (.builtin "object.__setattr__")))
 (fw0 : PySem.W.makesIn K ai = true)
 (fx0 : PySem.W.keepIn K (.ref ai) = true)
 (fy0 : PySem.W.findIn K (.ref ai) "__class__" = some (some (.builtin "object.__class__")))
 (fz0 : PySem.W.mroIn K ai (.type "object") = some true)
 (ga0 : PySem.W.findIn K (.ref ai) "parts" = some none)
 (gb0 : PySem.W.findIn K (.ref ai) "__init__" = some (some (.ref a0)))
 (gc0 : PySem.W.isFn K (.ref a0) = true)
 (dg0 : K.lookup a0 = some ⟨oz0,pe0,.func (PySem.W.fnOf "__init__" "Program.__init__" (defArgs (inClass (top 17) 0)) (defBody (inClass (top 17) 0)) (defScope (inClass (top 17) 0)) .none pa0 pb0 pc0 pf0 jd0 pd0),pg0⟩)
 (dh0 : PySem.W.codeIn K jd0 "Program.__init__" = true)
 (di0 : PySem.W.keepIn K (.ref a0) = true)
 (gd0 : PySem.W.findIn K (.ref ai) "nodes" = some (some (.ref n0)))
 (ge0 : PySem.W.isFn K (.ref n0) = true)
 (dj0 : K.lookup n0 = some ⟨ph0,pm0,.func (PySem.W.fnOf "nodes" "Program.nodes" (defArgs (inClass (top 17) 5)) (defBody (inClass (top 17) 5)) (defScope (inClass (top 17) 5)) .none pi0 pj0 pk0 pn0 je0 pl0),po0⟩)
 (dk0 : PySem.W.codeIn K je0 "Program.nodes" = true)
 (ad0 : PySem.W.keepIn K (.ref n0) = true)
 (gf0 : PySem.W.findIn K (.ref ai) "node" = some (some (.ref o0)))
 (gg0 : PySem.W.isFn K (.ref o0) = true)
 (dl0 : K.lookup o0 = some ⟨pp0,pu0,.func (PySem.W.fnOf "node" "Program.node" (defArgs (inClass (top 17) 6)) (defBody (inClass (top 17) 6)) (defScope (inClass (top 17) 6)) .none pq0 pr0 ps0 pv0 jf0 pt0),pw0⟩)
 (dm0 : PySem.W.codeIn K jf0 "Program.node" = true)
 (ae0 : PySem.W.keepIn K (.ref o0) = true)
 (gh0 : PySem.W.findIn K (.ref ai) "__eq__" = some (some (.ref u0)))
 (gi0 : PySem.W.isFn K (.ref u0) = true)
 (dn0 : K.lookup u0 = some ⟨px0,qc0,.func (PySem.W.fnOf "__eq__" "Program.__eq__" (defArgs (inClass (top 17) 1)) (defBody (inClass (top 17) 1)) (defScope (inClass (top 17) 1)) .none py0 pz0 qa0 qd0 jg0 qb0),qe0⟩)
 (do0 : PySem.W.codeIn K jg0 "Program.__eq__" = true)
 (af0 : PySem.W.keepIn K (.ref u0) = true)
 (gj0 : PySem.W.findIn K (.ref ai) "blocks" = some (some (.ref y0)))
 (gk0 : PySem.W.specialIn K (.ref y0) "__get__" = some (some (.builtin "property.__get__")))
 (gl0 : PySem.W.takesIn K (.ref y0) = some true)
 (gm0 : PySem.W.recIn K y0 "property" = some (.ref az0 :: qf0))
 (dp0 : K.lookup az0 = some ⟨qg0,ql0,.func (PySem.W.fnOf "blocks" "Program.blocks" (defArgs (inClass (top 17) 4)) (defBody (inClass (top 17) 4)) (defScope (inClass (top 17) 4)) .none qh0 qi0 qj0 qm0 jh0 qk0),qn0⟩)
 (dq0 : PySem.W.codeIn K jh0 "Program.blocks" = true)
 (dr0 : PySem.W.keepIn K (.ref az0) = true)
 (gn0 : PySem.W.findIn K (.ref ai) "places" = some (some (.ref z0)))
 (go0 : PySem.W.specialIn K (.ref z0) "__get__" = some (some (.builtin "property.__get__")))
 (gp0 : PySem.W.takesIn K (.ref z0) = some true)
 (gq0 : PySem.W.recIn K z0 "property" = some (.ref ba0 :: qo0))
 (ds0 : K.lookup ba0 = some ⟨qp0,qu0,.func (PySem.W.fnOf "places" "Program.places" (defArgs (inClass (top 17) 3)) (defBody (inClass (top 17) 3)) (defScope (inClass (top 17) 3)) .none qq0 qr0 qs0 qv0 ji0 qt0),qw0⟩)
 (dt0 : PySem.W.codeIn K ji0 "Program.places" = true)
 (du0 : PySem.W.keepIn K (.ref ba0) = true)
 (gr0 : PySem.W.findIn K (.ref ai) "names" = some (some (.ref aa0)))
 (gs0 : PySem.W.specialIn K (.ref aa0) "__get__" = some (some (.builtin "property.__get__")))
 (gt0 : PySem.W.takesIn K (.ref aa0) = some true)
 (gu0 : PySem.W.recIn K aa0 "property" = some (.ref bb0 :: qx0))
 (dv0 : K.lookup bb0 = some ⟨qy0,rd0,.func (PySem.W.fnOf "names" "Program.names" (defArgs (inClass (top 17) 2)) (defBody (inClass (top 17) 2)) (defScope (inClass (top 17) 2)) .none qz0 ra0 rb0 re0 jj0 rc0),rf0⟩)
 (dw0 : PySem.W.codeIn K jj0 "Program.names" = true)
 (dx0 : PySem.W.keepIn K (.ref bb0) = true)
 (ag0 : PySem.W.isClsIn K ai = true)
 (ah0 : PySem.W.typeIn K (.ref ai) = some (.type "type"))
 (dy0 : PySem.W.subIn K (.type "int") (.ref ai) = some false)
 (dz0 : PySem.W.subIn K (.type "dict") (.ref ai) = some false)
 (ea0 : PySem.W.subIn K (.type "NoneType") (.ref ai) = some false)
 (gv0 : PySem.W.findIn K (.ref ai) "__ne__" = some (some (.builtin "object.__ne__")))
 (gw0 : PySem.W.subIn K (.ref ai) (.type "object") = some true)
 (gx0 : PySem.W.nsIn K mainGlobals "MissError" = some (some (.ref aN)))
 (eb0 : PySem.W.nsIn K mainGlobals "UnknownProcedure" = some (some (.ref az)))
 (ec0 : PySem.W.nsIn K mainGlobals "BadPlace" = some (some (.ref aw)))
 (xn : PySem.W.specialIn K (.builtin "object.__class__") "__get__" = some (some (.builtin "getset_descriptor.__get__")))
 (xt : PySem.W.takesIn K (.builtin "object.__class__") = some true)
 (ed0 : PySem.W.subIn K (.ref aN) (.type "BaseException") = some true)
 (ee0 : PySem.W.typeIn K (.ref aN) = some (.type "type"))
 (ef0 : PySem.W.isClsIn K aN = true)
 (eg0 : PySem.W.subIn K (.ref az) (.type "BaseException") = some true)
 (eh0 : PySem.W.typeIn K (.ref az) = some (.type "type"))
 (gy0 : PySem.W.isClsIn K az = true)
 (ei0 : PySem.W.subIn K (.ref aw) (.type "BaseException") = some true)
 (ej0 : PySem.W.typeIn K (.ref aw) = some (.type "type"))
 (gz0 : PySem.W.isClsIn K aw = true)
 (ha0 : PySem.W.keepIn K (.ref az) = true)
 (hc0 : K.lookup az = some (excClassObj rg0 rh0 az ri0 rj0 jk0 true rl0 rk0 rm0 rn0 ro0 rp0 rq0 rr0 rs0 rt0 "ValueError.__new__"))
 (he0 : PySem.HandSPX.refsVE jk0 = true)
 (hf0 : PySem.W.findIn K (.ref az) "__setattr__" = some (some (.builtin "object.__setattr__")))
 (ek0 : PySem.W.findIn K (.ref az) "name" = some none)
 (hg0 : PySem.W.findIn K (.ref az) "__init__" = some (some (.ref ab0)))
 (hh0 : PySem.W.typeIn K (.ref ab0) = some (.type "function"))
 (el0 : K.lookup ab0 = some ⟨ru0,rz0,.func (PySem.W.fnOf "__init__" "UnknownProcedure.__init__" (defArgs (inClass (top 4) 0)) (defBody (inClass (top 4) 0)) (defScope (inClass (top 4) 0)) .none rv0 rw0 rx0 sa0 jl0 ry0),sb0⟩)
 (em0 : PySem.W.codeIn K jl0 "UnknownProcedure.__init__" = true)
 (en0 : PySem.W.keepIn K (.ref ab0) = true)
 (hi0 : PySem.W.findIn K (.ref az) "__getattribute__" = some (some (.builtin "BaseException.__getattribute__")))
 (hk0 : PySem.W.findIn K (.ref az) "__getattr__" = some none)
 (hm0 : PySem.W.hasDictIn K az = true)
 (hn0 : PySem.W.findIn K (.ref az) "__class__" = some (some (.builtin "object.__class__")))
 (ho0 : PySem.W.mroIn K az (.type "object") = some true)
 (hp0 : PySem.W.subIn K (.ref az) (.ref aN) = some true)
 (hs0 : PySem.W.subIn K (.ref az) (.type "ValueError") = some true)
 (ht0 : PySem.W.subIn K (.ref az) (.ref aw) = some false)
 (hu0 : az ≠ aw)
 (hv0 : PySem.W.keepIn K (.ref aw) = true)
 (hw0 : K.lookup aw = some (excClassObj sc0 sd0 aw se0 sf0 jm0 true sh0 sg0 si0 sj0 sk0 sl0 sm0 sn0 so0 sp0 "ValueError.__new__"))
 (hy0 : PySem.HandSPX.refsVE jm0 = true)
 (ia0 : PySem.W.findIn K (.ref aw) "__setattr__" = some (some (.builtin "object.__setattr__")))
 (eo0 : PySem.W.findIn K (.ref aw) "value" = some none)
 (ib0 : PySem.W.findIn K (.ref aw) "__init__" = some (some (.ref ac0)))
 (ic0 : PySem.W.typeIn K (.ref ac0) = some (.type "function"))
 (ep0 : K.lookup ac0 = some ⟨sq0,sw0,.func (PySem.W.fnOf "__init__" "BadPlace.__init__" (defArgs (inClass (top 5) 0)) (defBody (inClass (top 5) 0)) (defScope (inClass (top 5) 0)) .none sr0 ss0 su0 sx0 jn0 sv0),sy0⟩)
 (eq0 : PySem.W.codeIn K jn0 "BadPlace.__init__" = true)
 (er0 : PySem.W.keepIn K (.ref ac0) = true)
 (id0 : PySem.W.findIn K (.ref aw) "__getattribute__" = some (some (.builtin "BaseException.__getattribute__")))
 (ie0 : PySem.W.findIn K (.ref aw) "__getattr__" = some none)
 (if0 : PySem.W.hasDictIn K aw = true)
 (ig0 : PySem.W.findIn K (.ref aw) "__class__" = some (some (.builtin "object.__class__")))
 (ih0 : PySem.W.mroIn K aw (.type "object") = some true)
 (ii0 : PySem.W.subIn K (.ref aw) (.ref aN) = some true)
 (ij0 : PySem.W.subIn K (.ref aw) (.type "ValueError") = some true)
 (ik0 : PySem.W.subIn K (.ref aw) (.ref az) = some false)
 (il0 : aw ≠ az) :
 ∃ fd : FuncData,(∀ (s : Shared) (u : Value),BindsTo s fd ⟨[u],[]⟩ [("_law_script",u)]) /\ ∀ base : Heap,K.In base -> base.Ns mainGlobals mg -> FnG P w K mg base (L2.CX P w) 60 fa fd ["_law_script"] (eY K ir):=by
 have V : ∀ base : Heap,Env K mg base aN az aw ai:=fun base => {
  b_len:=PySem.W.mg_none_of X G z_len,
  b_abs:=PySem.W.mg_none_of X G z_abs,
  b_int:=PySem.W.mg_none_of X G z_int,
  b_list:=PySem.W.mg_none_of X G es0,
  b_tuple:=PySem.W.mg_none_of X G et0,
  b_sorted:=PySem.W.mg_none_of X G eu0,
  b_isinstance:=PySem.W.mg_none_of X G ev0,
  b_range:=PySem.W.mg_none_of X G ew0,
  b_enumerate:=PySem.W.mg_none_of X G ex0,
  b_zip:=PySem.W.mg_none_of X G z_zip,
  b_str:=PySem.W.mg_none_of X G z_str,
  b_bool:=PySem.W.mg_none_of X G ey0,
  b_set:=PySem.W.mg_none_of X G z_set,
  b_dict:=PySem.W.mg_none_of X G ez0,
  b_ValueError:=PySem.W.mg_none_of X G fa0,
  g_LETTERS:=⟨_,PySem.W.mg_of X G fb0⟩,
  g_MAIN:=⟨_,PySem.W.mg_of X G gMAIN⟩,
  g_MOST_PROCEDURES:=⟨_,PySem.W.mg_of X G fc0⟩,
  g_MOST_NODES:=⟨_,PySem.W.mg_of X G fd0⟩,
  g_MOST_BLOCKS:=⟨_,PySem.W.mg_of X G fe0⟩,
  d_is_integer:=⟨ai0,_,fun_mk (st:=(top 12)) bc0 bd0 be0,PySem.W.mg_of X G ff0,(fun_mk (st:=(top 12)) bc0 bd0 be0).binds (ps:=["value"]) fun _ _ _ _ _ _ us hl => match us,hl with | [_],_ => rfl⟩,
  d_is_name:=⟨aj0,_,fun_mk (st:=(top 13)) bf0 bg0 bh0,PySem.W.mg_of X G fg0,(fun_mk (st:=(top 13)) bf0 bg0 bh0).binds (ps:=["value"]) fun _ _ _ _ _ _ us hl => match us,hl with | [_],_ => rfl⟩,
  d_are_indexes:=⟨ak0,_,fun_mk (st:=(top 14)) bi0 bj0 bk0,PySem.W.mg_of X G fh0,(fun_mk (st:=(top 14)) bi0 bj0 bk0).binds (ps:=["value","size"]) fun _ _ _ _ _ _ us hl => match us,hl with | [_,_],_ => rfl⟩,
  d_is_node:=⟨al0,_,fun_mk (st:=(top 15)) bl0 bm0 bn0,PySem.W.mg_of X G fi0,(fun_mk (st:=(top 15)) bl0 bm0 bn0).binds (ps:=["value","size","names"]) fun _ _ _ _ _ _ us hl => match us,hl with | [_,_,_],_ => rfl⟩,
  d_need_procedures:=⟨am0,_,fun_mk (st:=(top 16)) bo0 bp0 bq0,PySem.W.mg_of X G fj0,(fun_mk (st:=(top 16)) bo0 bp0 bq0).binds (ps:=["value"]) fun _ _ _ _ _ _ us hl => match us,hl with | [_],_ => rfl⟩,
  d_is_place:=⟨an0,_,fun_mk (st:=(top 18)) br0 bs0 bt0,PySem.W.mg_of X G fk0,(fun_mk (st:=(top 18)) br0 bs0 bt0).binds (ps:=["program","value"]) fun _ _ _ _ _ _ us hl => match us,hl with | [_,_],_ => rfl⟩,
  d_need_place:=⟨ao0,_,fun_mk (st:=(top 19)) bu0 bv0 bw0,PySem.W.mg_of X G fl0,(fun_mk (st:=(top 19)) bu0 bv0 bw0).binds (ps:=["program","value"]) fun _ _ _ _ _ _ us hl => match us,hl with | [_,_],_ => rfl⟩,
  d_need_procedure:=⟨ap0,_,fun_mk (st:=(top 20)) bx0 by0 bz0,PySem.W.mg_of X G fm0,(fun_mk (st:=(top 20)) bx0 by0 bz0).binds (ps:=["program","name"]) fun _ _ _ _ _ _ us hl => match us,hl with | [_,_],_ => rfl⟩,
  d__law_begin:=⟨aq0,_,fun_mk (st:=(top 22)) ca0 cb0 cc0,PySem.W.mg_of X G fn0,(fun_mk (st:=(top 22)) ca0 cb0 cc0).binds (ps:=["_law_script"]) fun _ _ _ _ _ _ us hl => match us,hl with | [_],_ => rfl⟩,
  d__law_take:=⟨ar0,_,fun_mk (st:=(top 23)) cd0 ce0 cf0,PySem.W.mg_of X G fo0,(fun_mk (st:=(top 23)) cd0 ce0 cf0).binds (ps:=["_law_draw","_law_size"]) fun _ _ _ _ _ _ us hl => match us,hl with | [_,_],_ => rfl⟩,
  d__law_pick:=⟨as0,_,fun_mk (st:=(top 24)) cg0 ch0 ci0,PySem.W.mg_of X G fp0,(fun_mk (st:=(top 24)) cg0 ch0 ci0).binds (ps:=["_law_draw","_law_some"]) fun _ _ _ _ _ _ us hl => match us,hl with | [_,_],_ => rfl⟩,
  d__law_shuffled:=⟨at0,_,fun_mk (st:=(top 25)) cj0 ck0 cl0,PySem.W.mg_of X G fq0,(fun_mk (st:=(top 25)) cj0 ck0 cl0).binds (ps:=["_law_draw","_law_some"]) fun _ _ _ _ _ _ us hl => match us,hl with | [_,_],_ => rfl⟩,
  d__law_next:=⟨au0,_,fun_mk (st:=(top 26)) cm0 cn0 co0,PySem.W.mg_of X G fr0,(fun_mk (st:=(top 26)) cm0 cn0 co0).binds (ps:=["_law_draw","_law_many","_law_index"]) fun _ _ _ _ _ _ us hl => match us,hl with | [_,_,_],_ => rfl⟩,
  d__law_nodes:=⟨av0,_,fun_mk (st:=(top 27)) cp0 cq0 cr0,PySem.W.mg_of X G fs0,(fun_mk (st:=(top 27)) cp0 cq0 cr0).binds (ps:=["_law_draw","_law_names","_law_blocks","_law_most"]) fun _ _ _ _ _ _ us hl => match us,hl with | [_,_,_,_],_ => rfl⟩,
  d__law_parts:=⟨aw0,_,fun_mk (st:=(top 28)) cs0 ct0 cu0,PySem.W.mg_of X G ft0,(fun_mk (st:=(top 28)) cs0 ct0 cu0).binds (ps:=["_law_draw","_law_count","_law_most","_law_blocks"]) fun _ _ _ _ _ _ us hl => match us,hl with | [_,_,_,_],_ => rfl⟩,
  d__law_looks:=⟨ax0,_,fun_mk (st:=(top 29)) cv0 cw0 cx0,PySem.W.mg_of X G fu0,(fun_mk (st:=(top 29)) cv0 cw0 cx0).binds (ps:=["_law_program","_law_parts_here"]) fun _ _ _ _ _ _ us hl => match us,hl with | [_,_],_ => rfl⟩,
  d__law_changed:=⟨ay0,_,fun_mk (st:=(top 30)) cy0 cz0 da0,PySem.W.mg_of X G fv0,(fun_mk (st:=(top 30)) cy0 cz0 da0).binds (ps:=["_law_draw","_law_parts_here"]) fun _ _ _ _ _ _ us hl => match us,hl with | [_,_],_ => rfl⟩,
  d_law:=⟨flaw,_,fun_mk (st:=(top 31)) llaw claw klaw,PySem.W.mg_of X G alaw,(fun_mk (st:=(top 31)) llaw claw klaw).binds (ps:=["_law_script"]) fun _ _ _ _ _ _ us hl => match us,hl with | [_],_ => rfl⟩,
  c_Program:=⟨dc0,dd0,de0,df0⟩,
  i_Program:=⟨⟨⟨dc0,dd0,de0,df0⟩,fy0,xn,xt,fz0,uc⟩,PySem.W.mg_of X G db0⟩,
  n_Program_parts:=ga0,
  d_Program_init:=⟨a0,_,fun_mk (st:=(inClass (top 17) 0)) dg0 dh0 di0,⟨fw0,gb0,gc0,fx0⟩,PySem.W.mg_of X G db0,(fun_mk (st:=(inClass (top 17) 0)) dg0 dh0 di0).binds (ps:=["self","procedures"]) fun _ _ _ _ _ _ us hl => match us,hl with | [_,_],_ => rfl⟩,
  d_Program_nodes:=⟨n0,_,fun_mk (st:=(inClass (top 17) 5)) dj0 dk0 ad0,⟨gd0,ge0,ad0⟩,(fun_mk (st:=(inClass (top 17) 5)) dj0 dk0 ad0).binds (ps:=["self","name"]) fun _ _ _ _ _ _ us hl => match us,hl with | [_,_],_ => rfl⟩,
  d_Program_node:=⟨o0,_,fun_mk (st:=(inClass (top 17) 6)) dl0 dm0 ae0,⟨gf0,gg0,ae0⟩,(fun_mk (st:=(inClass (top 17) 6)) dl0 dm0 ae0).binds (ps:=["self","place"]) fun _ _ _ _ _ _ us hl => match us,hl with | [_,_],_ => rfl⟩,
  d_Program___eq__:=⟨u0,_,fun_mk (st:=(inClass (top 17) 1)) dn0 do0 af0,⟨gh0,gi0,af0⟩,(fun_mk (st:=(inClass (top 17) 1)) dn0 do0 af0).binds (ps:=["self","other"]) fun _ _ _ _ _ _ us hl => match us,hl with | [_,_],_ => rfl⟩,
  d_Program_blocks:=⟨y0,az0,_,fun_mk (st:=(inClass (top 17) 4)) dp0 dq0 dr0,⟨gj0,gk0,gl0,_,gm0⟩,(fun_mk (st:=(inClass (top 17) 4)) dp0 dq0 dr0).binds (ps:=["self"]) fun _ _ _ _ _ _ us hl => match us,hl with | [_],_ => rfl⟩,
  d_Program_places:=⟨z0,ba0,_,fun_mk (st:=(inClass (top 17) 3)) ds0 dt0 du0,⟨gn0,go0,gp0,_,gq0⟩,(fun_mk (st:=(inClass (top 17) 3)) ds0 dt0 du0).binds (ps:=["self"]) fun _ _ _ _ _ _ us hl => match us,hl with | [_],_ => rfl⟩,
  d_Program_names:=⟨aa0,bb0,_,fun_mk (st:=(inClass (top 17) 2)) dv0 dw0 dx0,⟨gr0,gs0,gt0,_,gu0⟩,(fun_mk (st:=(inClass (top 17) 2)) dv0 dw0 dx0).binds (ps:=["self"]) fun _ _ _ _ _ _ us hl => match us,hl with | [_],_ => rfl⟩,
  st_Program:=fun n hn => by
      simp only [List.mem_cons,List.not_mem_nil,or_false] at hn
      rcases hn with rfl | rfl | rfl
      . exact dy0
      . exact dz0
      . exact ea0,
  kt_Program:=fun n hn => by
      simp only [List.mem_cons,List.not_mem_nil,or_false] at hn
      rcases hn with rfl | rfl | rfl
      . exact sD ag0 ah0 dy0
      . exact sD ag0 ah0 dz0
      . exact sD ag0 ah0 ea0,
  ne_Program:=⟨gv0,gw0⟩,
  g_MissError:=PySem.W.mg_of X G gx0,
  g_UnknownProcedure:=PySem.W.mg_of X G eb0,
  g_BadPlace:=PySem.W.mg_of X G ec0,
  x_UnknownProcedure:=⟨PySem.W.mg_of X G eb0,⟨⟨_,_,_,_,_,_,_,_,_,_,_,_,_,_,_,hc0,he0⟩,hf0,eg0,eh0,ha0⟩,ek0,ab0,_,_,"name",(inClass (top 4) 0),_,_,_,_,fun_mk (st:=(inClass (top 4) 0)) el0 em0 en0,hg0,hh0,(fun_mk (st:=(inClass (top 4) 0)) el0 em0 en0).binds (ps:=["self","name"]) fun _ _ _ _ _ _ us hl => match us,hl with | [_,_],_ => rfl,rfl,⟨rfl,rfl,rfl,by decide +kernel,rfl,by decide +kernel,by decide +kernel⟩,by decide,by decide,fun _ _ => rfl⟩,
  f_UnknownProcedure_name:=ek0,
  e_UnknownProcedure:=⟨hi0,hk0,eg0,hm0,hn0,xn,xt,ho0⟩,
  m_UnknownProcedure:=xZ ed0 ef0 ee0 hp0,
  k_UnknownProcedure_ValueError:=y5 hs0,
  k_UnknownProcedure_UnknownProcedure:=uc,
  k_UnknownProcedure_BadPlace:=yZ hu0 gz0 ej0 ht0,
  x_BadPlace:=⟨PySem.W.mg_of X G ec0,⟨⟨_,_,_,_,_,_,_,_,_,_,_,_,_,_,_,hw0,hy0⟩,ia0,ei0,ej0,hv0⟩,eo0,ac0,_,_,"value",(inClass (top 5) 0),_,_,_,_,fun_mk (st:=(inClass (top 5) 0)) ep0 eq0 er0,ib0,ic0,(fun_mk (st:=(inClass (top 5) 0)) ep0 eq0 er0).binds (ps:=["self","value"]) fun _ _ _ _ _ _ us hl => match us,hl with | [_,_],_ => rfl,rfl,⟨rfl,rfl,rfl,by decide +kernel,rfl,by decide +kernel,by decide +kernel⟩,by decide,by decide,fun _ _ => rfl⟩,
  f_BadPlace_value:=eo0,
  e_BadPlace:=⟨id0,ie0,ei0,if0,ig0,xn,xt,ih0⟩,
  m_BadPlace:=xZ ed0 ef0 ee0 ii0,
  k_BadPlace_ValueError:=y5 ij0,
  k_BadPlace_UnknownProcedure:=yZ il0 gy0 eh0 ik0,
  k_BadPlace_BadPlace:=uc }
 have e:=hfa.symm.trans (PySem.W.mg_of X G alaw)
 cases e
 exact ⟨_,fun s u => .of_eq rfl,fun base _ _ => hlaw (fun_mk (st:=(top 31)) llaw claw klaw) (V base)⟩
def wz : World:=⟨fun _ _ => 0,{ strHash:=fun _ => 0,shareClass:=fun _ => 0,mergeTok:=id,idOf:=fun _ => 0,idOfShared:=fun _ _ => 0,followText:=fun _ => false,idOfImm:=fun _ => 0 }⟩
theorem walk {l : PySem.W.OpenLaw} {q : Program} {loose : List Str} {XP : (Str -> Option Value) -> Heap -> Prop} {YP : World -> Heap -> Prop} {d : DefRec} {K : Params -> PySem.W.Frag} (hn : l.most = some 63) (hdf : d.params.defaults = [])
 (hY : ∀ (w : World) (h : Heap),YP w h -> (K w.params).In h)
 (F : ∀ (w : World) (mg : Str -> Option Value) (fa : Addr) (h : Heap),(K w.params).In h -> h.Ns mainGlobals mg -> mg d.name = some (.ref fa) ->
     ∃ fd : FuncData,(∀ (s : Shared) (u : Value),BindsTo s fd ⟨[u],[]⟩ [("_law_script",u)]) /\ ∀ base : Heap,(K w.params).In base -> base.Ns mainGlobals mg -> FnG l.prog w (K w.params) mg base (L2.CX l.prog w) 60 fa fd ["_law_script"] (@eY ⟨w⟩ (K w.params) ir)) :
    PySem.W.WalkO q loose XP YP l.row.toRowW d [] (fun f vs => PySem.call f vs) :=
 aau (n:=63) (k:=60) (x:="_law_script") (CX:=fun w => L2.CX l.prog w) (sp:=fun w => @eY ⟨w⟩ (K w.params) ir) hn (by decide) hdf ⟨rfl,by decide,by decide⟩ hY F (fun w H a ns hl hO hS => @aaO ⟨w⟩ _ _ _ _ hl hO hS) fun w _ _ _ _ z => @afm ⟨w⟩ _ _ _ _ _ _ z
end K02
open PySem PySem.W PyProof.Rows
theorem K02.keepL (_h : K02.LawOk) {as l : List PySem.Addr} (x : (as == l) = true) : as = l:=eq_of_beq x
section
set_option hygiene false
local macro_rules | `(tactic| kernel_rfl) => `(tactic| ((with_reducible refine HdS.m3 (HdS.looks ?a1 ?a2 ?a3 ?a4) (HdS.m9 ?b1 ?b2 ?b3 ?b4 ?b5 ?b6 ?b7 ?b8 ?b9) ?c1); (case b1 => rename_i w os; exact Eq.mp (by kernel_rfl) (HdP.hb1 w os)); (case b2 => rename_i w os; exact Eq.mp (by kernel_rfl) (HdP.hb2 w os)); (case b3 => rename_i w os; exact Eq.mp (by kernel_rfl) (HdP.hb3 w os)); (case b4 => rename_i w os; exact Eq.mp (by kernel_rfl) (HdP.hb4 w os)); (case b5 => rename_i w os; exact Eq.mp (by kernel_rfl) (HdP.hb5 w os)); (case b6 => rename_i w os; exact Eq.mp (by kernel_rfl) (HdP.hb6 w os)); (case b7 => rename_i w os; exact Eq.mp (by kernel_rfl) (HdP.hb7 w os)); (case b8 => rename_i w os; exact Eq.mp (by kernel_rfl) (HdP.hb8 w os)); (case b9 => rename_i w os; exact Eq.mp (by kernel_rfl) (HdP.hb9 w os)); (all_goals kernel_rfl)))
local macro_rules | `(tactic| kernel_rfl) => `(tactic| (with_reducible refine K02.keepL hlaw ?_; kernel_rfl))
set_option hygiene true
set_option maxRecDepth 100000 in
set_option maxHeartbeats 0 in
theorem K02.fin (hlaw : K02.LawOk) : PySem.Challenge.rw_everymiss_k02_programs_as_given.Holds:=by
 w_on; o_law; k_headL; (case hw => w_witness2)
 k_fill
 letI : Dv.Wld:=⟨K02.wz⟩
 refine K02.walk (l:=PySem.Challenge.rw_everymiss_k02_programs_as_given) rfl rfl (fun w h Y => PySem.W.kIn_of Y) ?F
 case F => as_aux_lemma =>
  intro w0 mg fa h KX G hmg
  letI : Dv.Wld:=⟨w0⟩
  refine' K02.all_mk hlaw KX G hmg ?z_len ?z_abs ?z_int ?es0 ?et0 ?eu0 ?ev0 ?ew0 ?ex0 ?z_zip ?z_str ?ey0 ?z_set ?ez0 ?fa0 ?fb0 ?gMAIN ?fc0 ?fd0 ?fe0 ?ff0 ?bc0 ?bd0 ?be0 ?fg0 ?bf0 ?bg0 ?bh0 ?fh0 ?bi0 ?bj0 ?bk0 ?fi0 ?bl0 ?bm0 ?bn0 ?fj0 ?bo0 ?bp0 ?bq0 ?fk0 ?br0 ?bs0 ?bt0 ?fl0 ?bu0 ?bv0 ?bw0 ?fm0 ?bx0 ?by0 ?bz0 ?fn0 ?ca0 ?cb0 ?cc0 ?fo0 ?cd0 ?ce0 ?cf0 ?fp0 ?cg0 ?ch0 ?ci0 ?fq0 ?cj0 ?ck0 ?cl0 ?fr0 ?cm0 ?cn0 ?co0 ?fs0 ?cp0 ?cq0 ?cr0 ?ft0 ?cs0 ?ct0 ?cu0 ?fu0 ?cv0 ?cw0 ?cx0 ?fv0 ?cy0 ?cz0 ?da0 ?alaw ?llaw ?claw ?klaw ?db0 ?dc0 ?dd0 ?de0 ?df0 ?fw0 ?fx0 ?fy0 ?fz0 ?ga0 ?gb0 ?gc0 ?dg0 ?dh0 ?di0 ?gd0 ?ge0 ?dj0 ?dk0 ?ad0 ?gf0 ?gg0 ?dl0 ?dm0 ?ae0 ?gh0 ?gi0 ?dn0 ?do0 ?af0 ?gj0 ?gk0 ?gl0 ?gm0 ?dp0 ?dq0 ?dr0 ?gn0 ?go0 ?gp0 ?gq0 ?ds0 ?dt0 ?du0 ?gr0 ?gs0 ?gt0 ?gu0 ?dv0 ?dw0 ?dx0 ?ag0 ?ah0 ?dy0 ?dz0 ?ea0 ?gv0 ?gw0 ?gx0 ?eb0 ?ec0 ?xn ?xt ?ed0 ?ee0 ?ef0 ?eg0 ?eh0 ?gy0 ?ei0 ?ej0 ?gz0 ?ha0 ?hc0 ?he0 ?hf0 ?ek0 ?hg0 ?hh0 ?el0 ?em0 ?en0 ?hi0 ?hk0 ?hm0 ?hn0 ?ho0 ?hp0 ?hs0 ?ht0 ?hu0 ?hv0 ?hw0 ?hy0 ?ia0 ?eo0 ?ib0 ?ic0 ?ep0 ?eq0 ?er0 ?id0 ?ie0 ?if0 ?ig0 ?ih0 ?ii0 ?ij0 ?ik0 ?il0
  (case z_len => k_is)
  (case z_abs => k_is)
  (case z_int => k_is)
  (case es0 => k_is)
  (case et0 => k_is)
  (case eu0 => k_is)
  (case ev0 => k_is)
  (case ew0 => k_is)
  (case ex0 => k_is)
  (case z_zip => k_is)
  (case z_str => k_is)
  (case ey0 => k_is)
  (case z_set => k_is)
  (case ez0 => k_is)
  (case fa0 => k_is)
  (case fb0 => k_is)
  (case gMAIN => k_is)
  (case fc0 => k_is)
  (case fd0 => k_is)
  (case fe0 => k_is)
  (case ff0 => k_is)
  (case bc0 => k_is)
  (case bd0 => k_is)
  (case be0 => k_is)
  (case fg0 => k_is)
  (case bf0 => k_is)
  (case bg0 => k_is)
  (case bh0 => k_is)
  (case fh0 => k_is)
  (case bi0 => k_is)
  (case bj0 => k_is)
  (case bk0 => k_is)
  (case fi0 => k_is)
  (case bl0 => k_is)
  (case bm0 => k_is)
  (case bn0 => k_is)
  (case fj0 => k_is)
  (case bo0 => k_is)
  (case bp0 => k_is)
  (case bq0 => k_is)
  (case fk0 => k_is)
  (case br0 => k_is)
  (case bs0 => k_is)
  (case bt0 => k_is)
  (case fl0 => k_is)
  (case bu0 => k_is)
  (case bv0 => k_is)
  (case bw0 => k_is)
  (case fm0 => k_is)
  (case bx0 => k_is)
  (case by0 => k_is)
  (case bz0 => k_is)
  (case fn0 => k_is)
  (case ca0 => k_is)
  (case cb0 => k_is)
  (case cc0 => k_is)
  (case fo0 => k_is)
  (case cd0 => k_is)
  (case ce0 => k_is)
  (case cf0 => k_is)
  (case fp0 => k_is)
  (case cg0 => k_is)
  (case ch0 => k_is)
  (case ci0 => k_is)
  (case fq0 => k_is)
  (case cj0 => k_is)
  (case ck0 => k_is)
  (case cl0 => k_is)
  (case fr0 => k_is)
  (case cm0 => k_is)
  (case cn0 => k_is)
  (case co0 => k_is)
  (case fs0 => k_is)
  (case cp0 => k_is)
  (case cq0 => k_is)
  (case cr0 => k_is)
  (case ft0 => k_is)
  (case cs0 => k_is)
  (case ct0 => k_is)
  (case cu0 => k_is)
  (case fu0 => k_is)
  (case cv0 => k_is)
  (case cw0 => k_is)
  (case cx0 => k_is)
  (case fv0 => k_is)
  (case cy0 => k_is)
  (case cz0 => k_is)
  (case da0 => k_is)
  (case alaw => k_is)
  (case llaw => k_is)
  (case claw => k_is)
  (case klaw => k_is)
  (case db0 => k_is)
  (case dc0 => k_is)
  (case dd0 => k_is)
  (case de0 => k_is)
  (case df0 => k_is)
  (case fw0 => k_is)
  (case fx0 => k_is)
  (case fy0 => k_is)
  (case fz0 => k_is)
  (case ga0 => k_is)
  (case gb0 => k_is)
  (case gc0 => k_is)
  (case dg0 => k_is)
  (case dh0 => k_is)
  (case di0 => k_is)
  (case gd0 => k_is)
  (case ge0 => k_is)
  (case dj0 => k_is)
  (case dk0 => k_is)
  (case ad0 => k_is)
  (case gf0 => k_is)
  (case gg0 => k_is)
  (case dl0 => k_is)
  (case dm0 => k_is)
  (case ae0 => k_is)
  (case gh0 => k_is)
  (case gi0 => k_is)
  (case dn0 => k_is)
  (case do0 => k_is)
  (case af0 => k_is)
  (case gj0 => k_is)
  (case gk0 => k_is)
  (case gl0 => k_is)
  (case gm0 => k_is)
  (case dp0 => k_is)
  (case dq0 => k_is)
  (case dr0 => k_is)
  (case gn0 => k_is)
  (case go0 => k_is)
  (case gp0 => k_is)
  (case gq0 => k_is)
  (case ds0 => k_is)
  (case dt0 => k_is)
  (case du0 => k_is)
  (case gr0 => k_is)
  (case gs0 => k_is)
  (case gt0 => k_is)
  (case gu0 => k_is)
  (case dv0 => k_is)
  (case dw0 => k_is)
  (case dx0 => k_is)
  (case ag0 => k_is)
  (case ah0 => k_is)
  (case dy0 => k_is)
  (case dz0 => k_is)
  (case ea0 => k_is)
  (case gv0 => k_is)
  (case gw0 => k_is)
  (case gx0 => k_is)
  (case eb0 => k_is)
  (case ec0 => k_is)
  (case xn => k_is)
  (case xt => k_is)
  (case ed0 => k_is)
  (case ee0 => k_is)
  (case ef0 => k_is)
  (case eg0 => k_is)
  (case eh0 => k_is)
  (case gy0 => k_is)
  (case ei0 => k_is)
  (case ej0 => k_is)
  (case gz0 => k_is)
  (case ha0 => k_is)
  (case hc0 => k_is)
  (case he0 => decide +kernel)
  (case hf0 => k_is)
  (case ek0 => k_is)
  (case hg0 => k_is)
  (case hh0 => k_is)
  (case el0 => k_is)
  (case em0 => k_is)
  (case en0 => k_is)
  (case hi0 => k_is)
  (case hk0 => k_is)
  (case hm0 => k_is)
  (case hn0 => k_is)
  (case ho0 => k_is)
  (case hp0 => k_is)
  (case hs0 => k_is)
  (case ht0 => k_is)
  (case hu0 => decide)
  (case hv0 => k_is)
  (case hw0 => k_is)
  (case hy0 => decide +kernel)
  (case ia0 => k_is)
  (case eo0 => k_is)
  (case ib0 => k_is)
  (case ic0 => k_is)
  (case ep0 => k_is)
  (case eq0 => k_is)
  (case er0 => k_is)
  (case id0 => k_is)
  (case ie0 => k_is)
  (case if0 => k_is)
  (case ig0 => k_is)
  (case ih0 => k_is)
  (case ii0 => k_is)
  (case ij0 => k_is)
  (case ik0 => k_is)
  (case il0 => decide)
end
namespace K02
open PySem PySem.Spec PyProof.Rows L2 Dv Vl
variable [Dv.Wld]
variable {P : Program} {K : Fr0} {mg : Str -> Option Value} {base : Heap} {aN az aw ai : Addr}
def jw : Str:="abcdefghijklmnopqrstuvwxyz"
def bU (s : Str) : Prop:=(1 <= s.length /\ s.length <= 8) /\ ∀ c ∈ s.cps.toList,c ∈ jw.cps.toList
theorem zr {m : Nat} (h : m <= 20000) : m <= sizeLine:=by rw [sizeLine_eq]; omega
theorem bE {σ : SV} : bN [] σ = bp:=by
 funext i
 simp [bN,bp]
theorem ty_int : "int" ∈ cN:=by decide
theorem ty_bool : "bool" ∈ cN:=by decide
theorem ty_str : "str" ∈ cN:=by decide
theorem ty_dict : "dict" ∈ cN:=by decide
theorem ty_tuple : "tuple" ∈ cN:=by decide
theorem bW (n : String) : aQ n n = true:=by unfold aQ; simp
theorem ju : aQ "NoneType" "int" = false /\ aQ "bool" "int" = true /\ aQ "str" "int" = false /\ aQ "tuple" "int" = false /\ aQ "list" "int" = false /\ aQ "dict" "int" = false /\
    aQ "NoneType" "str" = false /\ aQ "bool" "str" = false /\ aQ "int" "str" = false /\ aQ "tuple" "str" = false /\ aQ "list" "str" = false /\ aQ "dict" "str" = false /\
    aQ "NoneType" "dict" = false /\ aQ "bool" "dict" = false /\ aQ "int" "dict" = false /\ aQ "tuple" "dict" = false /\ aQ "list" "dict" = false /\ aQ "str" "dict" = false /\
    aQ "NoneType" "tuple" = false /\ aQ "bool" "tuple" = false /\ aQ "int" "tuple" = false /\ aQ "dict" "tuple" = false /\ aQ "list" "tuple" = false /\ aQ "str" "tuple" = false /\
    aQ "NoneType" "bool" = false /\ aQ "tuple" "bool" = false /\ aQ "int" "bool" = false /\ aQ "dict" "bool" = false /\ aQ "list" "bool" = false /\ aQ "str" "bool" = false:=by decide
theorem v7 {s : Str} : aJ (.str s) <= 60:=by simp [aJ]
theorem ua {l : List PV} : l.filter (fun _ => false) = []:=by simp
theorem zu : ∀ {kvs : List (Key × PV)} {k : Key},k ∈ kvs.map (·.1) -> ∃ v,aV kvs k = some v /\ (k,v) ∈ kvs
 | [],_,h => by cases h
 | (j,p) :: r,k,h => by
  simp only [aV]
  by_cases e : j = k
  . subst e; exact ⟨p,by simp,List.mem_cons_self⟩
  . rw [if_neg e]
    obtain ⟨v,h1,h2⟩:=zu (kvs:=r) (k:=k) (by simpa [Ne.symm e] using h)
    exact ⟨v,h1,List.mem_cons_of_mem _ h2⟩
theorem xH : ∀ {kvs : List (Key × PV)} {k : Key} {v : PV},aV kvs k = some v -> k ∈ kvs.map (·.1)
 | (j,p) :: r,k,v,h => by
  simp only [aV] at h
  split at h
  . rename_i e; simp [e]
  . simp only [List.map_cons,List.mem_cons]; exact .inr (xH h)
def v1 (C : PV -> Prop) (f : PV -> PV) : SpV:=fun σ Ψ _ => ∃ p,σ 0 = some (.fr p) /\ C p /\ Ψ (.fr (f p)) bp
def aan : PV -> Option String
 | .dicN _ => none
 | p => tyP p
def jK (p : PV) : Prop:=(aan p).isSome = true
def zo (p : PV) : Prop:=jK p /\ ∀ s,p = .str s -> PyData.strOk s = true /\ s.length <= 20000
open Classical in
noncomputable def iV (p : PV) : Bool:=decide (∃ s,p = .str s /\ bU s)
def ot : PV -> Bool
 | .int _ => true
 | _ => false
theorem zj {p : PV} (h : ¬ ∃ s,p = .str s /\ bU s) : iV p = false:=by
 classical
 exact decide_eq_false h
theorem afg : FnScope ["value"] ["value"] (defScope (top 12)):=⟨rfl,rfl,rfl,by decide +kernel,rfl,by decide +kernel,by decide +kernel⟩
theorem zM (V : Env K mg base aN az aw ai) : c9 P w K mg base 1 "is_integer" 1 [] (v1 jK fun p => .bl (ot p)):=by
 refine eA (io:=[]) V.d_is_integer afg rfl (by decide) fun f cdv A outer s H E en hr => ⟨_,(aq (aZ (oK (ev_cb (fun _ h => dT V.b_isinstance h) dX (ae (ev_var (aa 0)) (ae (ev_c (dE rfl V.b_int rfl) (fun _ => .ty _)) ah))) (lX (afi (ev_cb (fun _ h => dT V.b_isinstance h) dX (ae (ev_var (aa 0)) (ae (ev_c (dE rfl V.b_bool rfl) (fun _ => .ty _)) ah)))))))),?_⟩
 rintro σ Ψ ΨE ⟨p,h0,hp,q⟩
 cases p <;> first | exact absurd hp Bool.false_ne_true | (simp only [VVQ,h0,bW,ju,Bool.not_false,Bool.not_true,bE,Bool.false_eq_true]; first | exact ⟨ty_int,ty_bool,q⟩ | exact ⟨ty_int,q⟩)
theorem acy {s : Str} {c : Nat} (h : PyData.strOk s = true) (hc : c ∈ s.cps.toList) : PyData.strOk ⟨#[c]⟩ = true:=by
 unfold PyData.strOk at h ⊢
 rw [<- Array.all_toList,List.all_eq_true] at h ⊢
 intro x hx
 have : x = c:=by simpa using hx
 subst this
 exact h _ hc
theorem jA {s : Str} (h : bU s) : PyData.strOk s = true:=by
 have hl : ∀ c ∈ jw.cps.toList,c < 0x110000:=by decide +kernel
 unfold PyData.strOk
 rw [<- Array.all_toList,List.all_eq_true]
 exact fun c hc => decide_eq_true (hl c (h.2 c hc))
theorem rG : FnScope ["value","sign"] ["value"] (defScope (top 13)):=⟨rfl,rfl,rfl,by decide +kernel,rfl,by decide +kernel,by decide +kernel⟩
theorem wL (V : Env K mg base aN az aw ai) : c9 P w K mg base 1 "is_name" 1 [] (v1 zo fun p => .bl (iV p)):=by
 refine eA (io:=[]) V.d_is_name rG rfl (by decide) fun f cdv A outer s H E en hr => ⟨_,(aF (bq (dh (cY (bM (ck (ev_cb (fun _ h => dT V.b_isinstance h) dX (ae (ev_var (aa 0)) (ae (ev_c (dE rfl V.b_str rfl) (fun _ => .ty _)) ah))))) (dI (bM (nv (fun _ _ _ h k l => oV ik ik h k l) dk dk aD (ev_cb (fun _ h => cK V.b_len h) dB (ae (ev_var (aa 0)) ah)) aD))))) (aq (aZ cA)) bB) (aq (aZ (ev_op (fun _ _ h k => fL (dA hr.u64) h k) d6.v (jx [("sign",1)] rG.nd (eC (ev_var (aa 0))) (fun _ _ _ _ _ => (bD (j:=1) rG.nd rfl (by first | exact .inl rfl | exact .inr rfl))) (fun _ _ _ _ _ => (lw (bv (fun _ _ h k => aT (kU hr.u65) h k) jW.v (ev_var (aa 1)) (mw (vK V.g_LETTERS) (fun _ => .str _))))) (fun _ _ _ _ _ => (ev_var (aa 1))) eG) (dv ah))))),?_⟩
 rintro σ Ψ ΨE ⟨p,h0,hp,q⟩
 replace q : Ψ (.fr (.bl (iV p))) bp:=q
 by_cases hs : ∃ s,p = .str s
 rotate_left
 . have e : iV p = false:=zj fun ⟨s,e,_⟩ => hs ⟨s,e⟩
   rw [e] at q
   cases p <;> first | exact absurd hp.1 Bool.false_ne_true | exact absurd ⟨_,rfl⟩ hs | (simp only [VVQ,cL,h0,bW,ju,Bool.not_false,Bool.not_true,bE,Bool.false_eq_true]; exact ⟨ty_str,q⟩)
 obtain ⟨s,rfl⟩:=hs
 obtain ⟨sok,sl⟩:=hp.2 s rfl
 by_cases hl : 1 <= s.length /\ s.length <= 8
 rotate_left
 . have e : iV (.str s) = false:=zj fun ⟨t,e,h⟩ => hl (by cases e; exact h.1)
   rw [e] at q
   by_cases h1 : ((1 : Int) <= (s.length : Int))
   . have h2 : ¬ ((s.length : Int) <= 8):=by omega
     simp only [VVQ,cL,h0,bW,Bool.not_true,Bool.not_false,h1,h2,decide_true,decide_false,bE,Bool.false_eq_true]
     exact ⟨ty_str,zr sl,q⟩
   . simp only [VVQ,cL,h0,bW,Bool.not_true,Bool.not_false,h1,decide_false,bE,Bool.false_eq_true]
     exact ⟨ty_str,zr sl,q⟩
 refine fo (σ1:=σ) (fun R hR => ?_) ?_
 . have h1 : ((1 : Int) <= (s.length : Int)):=by have:=hl.1; omega
   have h2 : ((s.length : Int) <= 8):=by have:=hl.2; omega
   simp only [VVQ,h0,bW,Bool.not_true,h1,h2,decide_true]
   exact ⟨ty_str,zr sl,hR⟩
 . have hlen : s.cps.toList.length <= 8:=by rw [Array.length_toList]; exact hl.2
   classical
   simp only [VVQ,h0]
   refine iw (fun x => decide (∃ c,x = PV.str ⟨#[c]⟩ /\ c ∉ jw.cps.toList)) id (zr (by rw [List.length_map]; omega)) (fun x hx => ?_) ?_
   . obtain ⟨c,hc,rfl⟩:=List.mem_map.mp hx
     refine ⟨_,rfl,fun A B hA hB => ?_⟩
     simp only [VVQ]
     refine ⟨c,rfl,?_⟩
     by_cases hin : c ∈ jw.cps.toList
     . have : decide (c ∈ (Str.ofString "abcdefghijklmnopqrstuvwxyz").cps.toList) = true:=decide_eq_true hin
       simp only [this,Bool.not_true,Bool.false_eq_true,if_false]
       exact hA (decide_eq_false fun ⟨d,e,h⟩ => by cases e; exact h hin) _ fun i hi => uR i hi
     . have : decide (c ∈ (Str.ofString "abcdefghijklmnopqrstuvwxyz").cps.toList) = false:=decide_eq_false hin
       simp only [this,Bool.not_false,if_true,cf,reduceIte]
       exact hB (decide_eq_true ⟨c,rfl,hin⟩) _ fun i hi => uR i hi
   . simp only [VVQ]
     have fl : ∀ x ∈ (s.cps.toList.map fun c => PV.str ⟨#[c]⟩).filter (fun x => decide (∃ c,x = PV.str ⟨#[c]⟩ /\ c ∉ jw.cps.toList)),∃ c ∈ s.cps.toList,x = PV.str ⟨#[c]⟩:=fun x hx => by
      obtain ⟨c,hc,e⟩:=List.mem_map.mp (List.mem_filter.mp hx).1
      exact ⟨c,hc,e.symm⟩
     refine ⟨zr (by decide),mC (fun p hp => ?_),?_⟩
     . rw [List.map_id] at hp
       obtain ⟨c,hc,rfl⟩:=fl p hp
       exact ⟨by rw [au]; exact acy sok hc,v7⟩
     . rw [bE]
       have e : iV (.str s) = decide (PV.lst (((s.cps.toList.map fun c => PV.str ⟨#[c]⟩).filter (fun x => decide (∃ c,x = PV.str ⟨#[c]⟩ /\ c ∉ jw.cps.toList))).map id) = PV.lst []):=by
        unfold iV
        rw [List.map_id,decide_eq_decide]
        constructor
        . rintro ⟨t,e,h⟩
          cases e
          rw [PV.lst.injEq,List.filter_eq_nil_iff]
          intro x hx
          obtain ⟨c,hc,rfl⟩:=List.mem_map.mp hx
          rw [decide_eq_true_eq]
          rintro ⟨d,e,hd⟩
          cases e
          exact hd (h.2 _ hc)
        . intro h
          rw [PV.lst.injEq,List.filter_eq_nil_iff] at h
          refine ⟨s,rfl,hl,fun c hc => ?_⟩
          have:=h _ (List.mem_map.mpr ⟨c,hc,rfl⟩)
          rw [decide_eq_true_eq] at this
          exact Classical.byContradiction fun z => this ⟨c,rfl,z⟩
       rw [<- e]
       exact q
end K02
namespace K02
open PySem PySem.Spec PyProof.Rows L2 Dv Vl
variable [Dv.Wld]
variable {P : Program} {K : Fr0} {mg : Str -> Option Value} {base : Heap} {aN az aw ai : Addr}
theorem vZ {fv : PV -> SV -> Option SV} {us : List Nat} {tt : VT} {tk' tv : VE} {Fin : List (Key × PV) -> SV -> Prop} (I : List PV -> List (Key × PV) -> SV -> Prop) (h0 : ∀ acc σ,I [] acc σ -> Fin acc σ)
 (h1 : ∀ p r acc σ,I (p :: r) acc σ -> ∃ σ',fv p (ay σ us) = some σ' /\ ∀ R : List (Key × PV) -> SV -> Prop,(∀ acc σ1,I r acc (ay σ1 us) -> R acc σ1) -> tt σ' fun b σ1 => if b = true then tk' σ1 fun y σ2 => (match (rd σ2 y).bind dU with
        | some key => tv σ2 fun z σ3 => (match tk σ3 z with
         | some (q,σ4) => acc.length < sizeLine /\ R (eF acc key q) σ4
         | none => False)
        | none => False) else R acc σ1) : ∀ items acc σ,I items acc σ -> iR fv us tt tk' tv Fin items acc σ
 | [],acc,σ,i => h0 acc σ i
 | p :: r,acc,σ,i => by
  obtain ⟨σ',e,h⟩:=h1 p r acc σ i
  simp only [iR,e]
  exact h (fun acc σ1 => iR fv us tt tk' tv Fin r acc (ay σ1 us)) fun acc σ1 i1 => vZ I h0 h1 r acc (ay σ1 us) i1
theorem qw {kvs : List (Key × PV)} {k : Key} {v : PV} (h : k ∉ kvs.map (·.1)) : eF kvs k v = kvs ++ [(k,v)]:=by
 unfold eF
 rw [if_neg]
 intro z
 obtain ⟨kv,h1,h2⟩:=List.any_eq_true.mp z
 exact h (List.mem_map.mpr ⟨kv,h1,of_decide_eq_true h2⟩)
theorem acO {kvs : List (Key × PV)} {k : Key} {v : PV} (h : k ∈ kvs.map (·.1)) (hv : ∀ kv ∈ kvs,kv.2 = v) : eF kvs k v = kvs:=by
 unfold eF
 obtain ⟨kv,h1,h2⟩:=List.mem_map.mp h
 rw [if_pos (List.any_eq_true.mpr ⟨kv,h1,decide_eq_true h2⟩)]
 conv => rhs; rw [<- List.map_id kvs]
 refine List.map_congr_left fun x hx => ?_
 by_cases e : x.1 = k
 . rw [if_pos e,<- hv x hx]
   rfl
 . rw [if_neg e]
   rfl
inductive Nd where
 | fin | skip (nx : List Nat) | touch (b : Str) (nx : List Nat) | call (f : Str) (nx : List Nat)
def de (nx : List Nat) : PV:=.tup (nx.map fun i => PV.int ((i : Nat) : Int))
def aj : Nd -> PV
 | .fin => .tup [.str "end"]
 | .skip nx => .tup [.str "skip",de nx]
 | .touch b nx => .tup [.str "touch",.str b,de nx]
 | .call f nx => .tup [.str "call",.str f,de nx]
abbrev Parts:=List (Str × List Nd)
def ie (m : Nat) (nx : List Nat) : Prop:=nx.Pairwise (· < ·) /\ ∀ i ∈ nx,i < m
def eT (m : Nat) (names : List Str) : Nd -> Prop
 | .fin => True
 | .skip nx => ie m nx
 | .touch b nx => bU b /\ ie m nx
 | .call f nx => f ∈ names /\ ie m nx
def cO : Nd -> Option Str
 | .touch b _ => some b
 | _ => none
def di (ps : Parts) : List Str:=ps.flatMap fun q => q.2.filterMap cO
structure GoodParts (ps : Parts) : Prop where
 nd : (ps.map (·.1)).Nodup
 len : 1 <= ps.length /\ ps.length <= 6
 main : ("main" : Str) ∈ ps.map (·.1)
 name : ∀ q ∈ ps,bU q.1
 nodes : ∀ q ∈ ps,1 <= q.2.length /\ q.2.length <= 12
 ok : ∀ q ∈ ps,∀ n ∈ q.2,eT q.2.length (ps.map (·.1)) n
 few : ∃ S : List Str,S.length <= 6 /\ ∀ b ∈ di ps,b ∈ S
def ap (ps : Parts) : List (Key × PV):=ps.map fun q => (.inr q.1,.lst (q.2.map aj))
def aX (ps : Parts) : List (Key × PV):=ps.map fun q => (.inr q.1,.tup (q.2.map aj))
def aA (ai : Addr) (ps : Parts) : PV:=.ins ai [("parts",.dic (aX ps))]
theorem qX (ps : Parts) : (ap ps).map (·.1) = (ps.map (·.1)).map Sum.inr:=by simp [ap,Function.comp_def]
theorem yH (ps : Parts) : (aX ps).map (·.1) = (ps.map (·.1)).map Sum.inr:=by simp [aX,Function.comp_def]
theorem fW : ∀ {ps : Parts} {n : Str} {l : List Nd},ps.lookup n = some l -> aV (ap ps) (.inr n) = some (.lst (l.map aj))
 | [],n,l,h => by cases h
 | (m,k) :: ps,n,l,h => by
  show aV ((.inr m,.lst (k.map aj)) :: ap ps) (.inr n) = _
  rw [List.lookup_cons] at h
  simp only [aV]
  by_cases e : m = n
  . subst e
    simp at h
    subst h
    simp
  . rw [if_neg (fun z => e (by cases z; rfl))]
    rw [show (n == m) = false from beq_eq_false_iff_ne.mpr (Ne.symm e)] at h
    exact fW h
theorem jk : ∀ {ps : Parts} {n : Str} {l : List Nd},ps.lookup n = some l -> aV (aX ps) (.inr n) = some (.tup (l.map aj))
 | [],n,l,h => by cases h
 | (m,k) :: ps,n,l,h => by
  show aV ((.inr m,.tup (k.map aj)) :: aX ps) (.inr n) = _
  rw [List.lookup_cons] at h
  simp only [aV]
  by_cases e : m = n
  . subst e
    simp at h
    subst h
    simp
  . rw [if_neg (fun z => e (by cases z; rfl))]
    rw [show (n == m) = false from beq_eq_false_iff_ne.mpr (Ne.symm e)] at h
    exact jk h
theorem dW : ∀ {ps : Parts} {n : Str},n ∈ ps.map (·.1) -> ∃ l,ps.lookup n = some l /\ (n,l) ∈ ps
 | [],n,h => by cases h
 | (m, k) :: ps, n, h => by
  rw [List.lookup_cons]
  by_cases e : n = m
  . subst e
    exact ⟨k,by simp,List.mem_cons_self⟩
  . rw [show (n == m) = false from beq_eq_false_iff_ne.mpr e]
    obtain ⟨l,h1,h2⟩:=dW (ps:=ps) (n:=n) (by
     rcases List.mem_cons.mp h with z | z
     . exact absurd z e
     . exact z)
    exact ⟨l,h1,List.mem_cons_of_mem _ h2⟩
theorem ew : ∀ {ps : Parts} {n : Str} {l : List Nd},ps.lookup n = some l -> (n,l) ∈ ps
 | [],n,l,h => by cases h
 | (m,k) :: ps,n,l,h => by
  rw [List.lookup_cons] at h
  by_cases e : n = m
  . subst e
    simp at h
    subst h
    exact List.mem_cons_self
  . rw [show (n == m) = false from beq_eq_false_iff_ne.mpr e] at h
    exact List.mem_cons_of_mem _ (ew h)
theorem dH : ∀ {ps : Parts} {n : Str} {l : List Nd},(ps.map (·.1)).Nodup -> (n,l) ∈ ps -> ps.lookup n = some l
 | (m,k) :: ps,n,l,hn,h => by
  rw [List.map_cons,List.nodup_cons] at hn
  rw [List.lookup_cons]
  rcases List.mem_cons.mp h with z | z
  . cases z; simp
  . have : n ≠ m:=fun e => hn.1 (by rw [<- e]; exact List.mem_map.mpr ⟨_,z,rfl⟩)
    rw [show (n == m) = false from beq_eq_false_iff_ne.mpr this]
    exact dH hn.2 z
theorem aay {σ : SV} {i j : Nat} {c d : Option Cell} : ∀ k,k ∉ [i,j] -> ac (ac (ac (ac σ j none) i none) i c) j d k = σ k:=fun k hk => by
 simp only [List.mem_cons,List.not_mem_nil,or_false,not_or] at hk
 simp only [ac,if_neg hk.1,if_neg hk.2]
theorem wU : ∀ {nx : List Nat} {a b : PV},nx.Pairwise (· < ·) -> (a,b) ∈ (nx.map fun i => PV.int ((i : Nat) : Int)).zip ((nx.map fun i => PV.int ((i : Nat) : Int)).drop 1) -> ∃ i j : Nat,a = .int (i : Int) /\ b = .int (j : Int) /\ i < j
 | [],_,_,_,h => by cases h
 | [_],_,_,_,h => by cases h
 | i :: j :: nx,a,b,hp,h => by
  obtain ⟨h1,h2⟩:=List.pairwise_cons.mp hp
  rcases List.mem_cons.mp h with z | z
  . cases z
    exact ⟨i,j,rfl,rfl,h1 j List.mem_cons_self⟩
  . exact wU (nx:=j :: nx) h2 z
def nH : SpV:=fun σ Ψ _ => ∃ (nx : List Nat) (m : Nat),σ 0 = some (.fr (de nx)) /\ σ 1 = some (.fr (.int (m : Int))) /\ ie m nx /\ nx.length <= 1000 /\ Ψ (.fr (.bl true)) bp
theorem mx : FnScope ["value","size","index","one","other"] ["value","size"] (defScope (top 14)):=⟨rfl,rfl,rfl,by decide +kernel,rfl,by decide +kernel,by decide +kernel⟩
theorem ww (V : Env K mg base aN az aw ai) : c9 P w K mg base 2 "are_indexes" 2 [] nH:=by
 refine eA (io:=[]) V.d_are_indexes mx rfl (by decide) fun f cdv A outer s H E en hr => ⟨_,(aF (bq (bM (ck (ev_cb (fun _ h => dT V.b_isinstance h) dX (ae (ev_var (aa 0)) (ae (ev_c (dE rfl V.b_tuple rfl) (fun _ => .ty _)) ah))))) (aq (aZ cA)) bB) (aF (fM (passes_of rfl) rfl (eC (ev_var (aa 0))) (bD (j:=2) mx.nd rfl (by first | exact .inl rfl | exact .inr rfl)) (aq (bq (dh (cY (bM (ck (ev_call (fun _ => .nil) (fun _ h => aY (zM V) (hr.mono (by decide)) h) (ae (ev_var (aa 2)) ah)))) (dI (bM (nv (fun _ _ _ h k l => oV ik lW h k l) dk dk aD (ev_var (aa 2)) (ev_var (aa 1))))))) (aq (aZ cA)) bB))) (aq (aZ (ev_op (fun _ _ h k => fL (dA hr.u64) h k) d6.v (jx [("one",3),("other",4)] mx.nd (adT (fun _ h => ad3 rfl V.b_zip h) (ae (ev_var (aa 0)) (ae (sV (ev_var (aa 0)) (qY aD) tm) ah))) (fun _ _ _ _ _ => (nB (n:=2) rfl (i3 (bD (j:=3) mx.nd rfl (by first | exact .inl rfl | exact .inr rfl)) (i3 (bD (j:=4) mx.nd rfl (by first | exact .inl rfl | exact .inr rfl)) oF)))) (fun _ _ _ _ _ => (lw (bv (fun _ _ h k => aT zF h k) dk.v (ev_var (aa 3)) (ev_var (aa 4))))) (fun _ _ _ _ _ => (ev_var (aa 3))) (ace (y6 eG (y6 eG z6)))) (dv ah)))))),?_⟩
 rintro σ Ψ ΨE ⟨nx,m,h0,h1,⟨hp,hb⟩,hl,q⟩
 unfold de at h0
 refine fo (σ1:=σ) (fun R hR => ?_) ?_
 . simp only [VVQ,h0,bW,Bool.not_true,Bool.false_eq_true,if_false]
   exact ⟨ty_tuple,hR⟩
 refine a8 (M:=fun τ => τ 0 = some (.fr (.tup (nx.map fun i => PV.int ((i : Nat) : Int))))) ?_ fun R hR => ?_
 . intro τ e0
   simp only [VVQ,e0]
   refine iw (fun _ => false) id (zr (by unfold iH; rw [List.length_map,List.length_zip,List.length_map]; omega)) (fun x hx => ?_) ?_
   . unfold iH at hx
     obtain ⟨⟨a,b⟩,hab,rfl⟩:=List.mem_map.mp hx
     rw [show cut (nx.map fun i => PV.int ((i : Nat) : Int)) (some 1) none = _ from aej _ 1] at hab
     obtain ⟨i,j,rfl,rfl,hij⟩:=wU hp hab
     refine ⟨_,rfl,fun A B hA hB => ?_⟩
     have hn : ¬ ((j : Int) <= (i : Int)):=by omega
     simp only [VVQ,hn,decide_false,Bool.false_eq_true,if_false]
     exact hA rfl _ fun k hk => aay k hk
   . simp only [VVQ,ua,List.map_nil]
     refine ⟨zr (by decide),mC (fun p hp => by cases hp),?_⟩
     simp only [decide_true,bE]
     exact q
 . simp only [VVQ,h0]
   refine dP (I:=fun r τ => (∃ v : List Nat,r = v.map (fun i => PV.int ((i : Nat) : Int)) /\ ∀ i ∈ v,i < m) /\ τ 0 = some (.fr (.tup (nx.map fun i => PV.int ((i : Nat) : Int)))) /\ τ 1 = some (.fr (.int (m : Int)))) ?_ ?_ _ _ ⟨⟨nx,rfl,hb⟩,h0,h1⟩
   . rintro τ ⟨_,e0,_⟩
     exact hR _ e0
   . rintro x r τ ⟨⟨v,hv,hlt⟩,e0,e1⟩
     cases v with
     | nil => cases hv
     | cons i v =>
      obtain ⟨rfl,rfl⟩:=List.cons.inj hv
      refine ⟨_,rfl,fun R2 hR2 => ?_⟩
      have h1 : (0 : Int) <= (i : Int):=by omega
      have h2 : (i : Int) < (m : Int):=by have:=hlt i List.mem_cons_self; omega
      simp only [VVQ,e1,v1]
      refine ⟨_,rfl,rfl,?_⟩
      simp only [ot,Bool.not_true,h1,h2,decide_true,Bool.false_eq_true,if_false,if_true]
      exact hR2 _ ⟨⟨v,rfl,fun j hj => hlt j (List.mem_cons_of_mem _ hj)⟩,by simpa [ac] using e0,by simpa [ac] using e1⟩
theorem xi {m : Nat} : ∀ {nx : List Nat} (k : Nat),nx.Pairwise (· < ·) -> (∀ i ∈ nx,k <= i /\ i < m) -> nx.length <= m - k
 | [],k,_,_ => Nat.zero_le _
 | i :: nx,k,hp,h => by
  obtain ⟨h1,h2⟩:=List.pairwise_cons.mp hp
  have:=xi (nx:=nx) (i + 1) h2 fun j hj => ⟨h1 j hj,(h j (List.mem_cons_of_mem _ hj)).2⟩
  have:=h i List.mem_cons_self
  rw [List.length_cons]
  omega
theorem ie.len {m : Nat} {nx : List Nat} (h : ie m nx) : nx.length <= m:=xi 0 h.1 fun i hi => ⟨Nat.zero_le _,h.2 i hi⟩
def qR : SpV:=fun σ Ψ _ => ∃ (n : Nd) (m : Nat) (kvs : List (Key × PV)) (names : List Str),σ 0 = some (.fr (aj n)) /\ σ 1 = some (.fr (.int (m : Int))) /\ σ 2 = some (.fr (.dic kvs)) /\ kvs.map (·.1) = names.map Sum.inr /\ (∀ s ∈ names,bU s) /\ eT m names n /\ m <= 1000 /\ Ψ (.fr (.bl true)) bp
theorem s7 {s : Str} (h : bU s) : zo (.str s):=⟨rfl,fun t e => by cases e; exact ⟨jA h,by have:=h.1.2; omega⟩⟩
theorem sk {s : Str} (h : bU s) : iV (.str s) = true:=by
 classical
 exact decide_eq_true ⟨s,rfl,h⟩
theorem ia {i j : Int} : Cmp (.int i) (.int j):=.inl rfl
theorem iJ {a b : Str} : Cmp (.str a) (.str b):=.inl rfl
theorem ty_list : "list" ∈ cN:=by decide
theorem oE : ¬ (Str.ofString "skip") = Str.ofString "end":=by decide
theorem nc : ¬ (Str.ofString "touch") = Str.ofString "end":=by decide
theorem nI : ¬ (Str.ofString "touch") = Str.ofString "skip":=by decide
theorem pI : ¬ (Str.ofString "call") = Str.ofString "end":=by decide
theorem o6 : ¬ (Str.ofString "call") = Str.ofString "skip":=by decide
theorem lj : ¬ (Str.ofString "call") = Str.ofString "touch":=by decide
theorem og : ¬ (Str.ofString "touch") = Str.ofString "call":=by decide
theorem aeE : FnScope ["value","size","names"] ["value","size","names"] (defScope (top 15)):=⟨rfl,rfl,rfl,by decide +kernel,rfl,by decide +kernel,by decide +kernel⟩
theorem xr (V : Env K mg base aN az aw ai) : c9 P w K mg base 3 "is_node" 3 [] qR:=by
 refine eA (io:=[]) V.d_is_node aeE rfl (by decide) fun f cdv A outer s H E en hr => ⟨_,(aF (bq (dh (cY (bM (ck (ev_cb (fun _ h => dT V.b_isinstance h) dX (ae (ev_var (aa 0)) (ae (ev_c (dE rfl V.b_tuple rfl) (fun _ => .ty _)) ah))))) (cY (bv (fun _ _ h k => aT (dA hr.u64) h k) d6.v (ev_cb (fun _ h => cK V.b_len h) dB (ae (ev_var (aa 0)) ah)) aD) (dI (bM (ck (ev_cb (fun _ h => dT V.b_isinstance h) dX (ae (ev_op (fun _ _ h k => aE hr.u9 h k (fun _ _ => rfl)) aS (ev_var (aa 0)) aD) (ae (ev_c (dE rfl V.b_str rfl) (fun _ => .ty _)) ah))))))))) (aq (aZ cA)) bB) (aF (bq (bv (fun _ _ h k => aT (dA hr.u64) h k) d6.v (ev_op (fun _ _ h k => aE hr.u9 h k (fun _ _ => rfl)) aS (ev_var (aa 0)) aD) bR) (aq (aZ (ev_op (fun _ _ h k => fL (dA hr.u64) h k) d6.v (ev_cb (fun _ h => cK V.b_len h) dB (ae (ev_var (aa 0)) ah)) aD))) bB) (aF (bq (bv (fun _ _ h k => aT (dA hr.u64) h k) d6.v (ev_op (fun _ _ h k => aE hr.u9 h k (fun _ _ => rfl)) aS (ev_var (aa 0)) aD) bR) (aq (aZ (oK (ev_op (fun _ _ h k => fL (dA hr.u64) h k) d6.v (ev_cb (fun _ h => cK V.b_len h) dB (ae (ev_var (aa 0)) ah)) aD) (lX (ev_call (fun _ => .nil) (fun _ h => aY (ww V) (hr.mono (by decide)) h) (ae (ev_op (fun _ _ h k => aE hr.u9 h k (fun _ _ => rfl)) aS (ev_var (aa 0)) aD) (ae (ev_var (aa 1)) ah))))))) bB) (aF (bq (dh (cY (bv (fun _ _ h k => aT (kU hr.u65) h k) jW.v (ev_op (fun _ _ h k => aE hr.u9 h k (fun _ _ => rfl)) aS (ev_var (aa 0)) aD) (eV (ae bR (ae bR ah)))) (cY (bv (fun _ _ h k => aT (eh hr.u64) h k) fy.v (ev_cb (fun _ h => cK V.b_len h) dB (ae (ev_var (aa 0)) ah)) aD) (dI (bM (ck (ev_call (fun _ => .nil) (fun _ h => aY (wL V) (hr.mono (by decide)) h) (ae (ev_op (fun _ _ h k => aE hr.u9 h k (fun _ _ => rfl)) aS (ev_var (aa 0)) aD) ah)))))))) (aq (aZ cA)) bB) (aq (aZ (oK (ev_call (fun _ => .nil) (fun _ h => aY (ww V) (hr.mono (by decide)) h) (ae (ev_op (fun _ _ h k => aE hr.u9 h k (fun _ _ => rfl)) aS (ev_var (aa 0)) aD) (ae (ev_var (aa 1)) ah))) (lX (aeJ (ev_op (fun _ _ h k => fL (dA hr.u64) h k) d6.v (ev_op (fun _ _ h k => aE hr.u9 h k (fun _ _ => rfl)) aS (ev_var (aa 0)) aD) bR) (lX (ev_op (fun _ _ h k => fL (aeH hr.u65) h k) jW.v (ev_op (fun _ _ h k => aE hr.u9 h k (fun _ _ => rfl)) aS (ev_var (aa 0)) aD) (ev_var (aa 2))))))))))))),?_⟩
 rintro σ Ψ ΨE ⟨n,m,kvs,names,h0,h1,h2,hk,hn,hg,hm,q⟩
 have n1 : ¬ ((((1 : Nat) : Int)) = 0):=by omega
 have n2 : ¬ ((((1 + 1 : Nat) : Int)) = 0):=by omega
 have n3 : ¬ ((((1 + 1 + 1 : Nat) : Int)) = 0):=by omega
 have e1 : ((((1 : Nat) : Int)) = 1) = True:=eq_true (by omega)
 have e2 : ((((1 + 1 : Nat) : Int)) = 2) = True:=eq_true (by omega)
 have e3 : ((((1 + 1 + 1 : Nat) : Int)) = 3) = True:=eq_true (by omega)
 cases n with
 | fin =>
  simp only [aj] at h0
  simp only [VVQ,cL,h0,h1,h2,dY,fN,pR,ty_tuple,ty_str,bW,ia,iJ,PV.str.injEq,PV.int.injEq,oE,nc,nI,pI,o6,lj,og,decide_true,decide_false,Bool.not_true,Bool.not_false,Bool.false_eq_true,bE,n1,e1]
  exact q
 | skip nx =>
  simp only [aj] at h0
  simp only [VVQ,cL,h0,h1,h2,nH,dY,fN,pR,ty_tuple,ty_str,bW,ia,iJ,PV.str.injEq,PV.int.injEq,oE,nc,nI,pI,o6,lj,og,decide_true,decide_false,Bool.not_true,Bool.not_false,Bool.false_eq_true,bE,n2,e2]
  exact ⟨nx,m,rfl,rfl,hg,by have:=hg.len; omega,q⟩
 | touch b nx =>
  simp only [aj] at h0
  simp only [VVQ,cL,h0,h1,h2,nH,v1,dY,fN,pR,ty_tuple,ty_str,bW,ia,iJ,PV.str.injEq,PV.int.injEq,oE,nc,nI,pI,o6,lj,og,decide_true,decide_false,Bool.not_true,Bool.not_false,Bool.false_eq_true,bE,n3,e3]
  refine ⟨zr (by decide),["touch","call"],rfl,?_⟩
  rw [if_neg (by simp)]
  refine ⟨_,rfl,s7 hg.1,?_⟩
  rw [if_neg (by rw [sk hg.1]; simp)]
  exact ⟨nx,m,rfl,rfl,hg.2,by have:=hg.2.len; omega,q⟩
 | call b nx =>
  simp only [aj] at h0
  simp only [VVQ,cL,h0,h1,h2,nH,v1,dY,fN,pR,ty_tuple,ty_str,bW,ia,iJ,PV.str.injEq,PV.int.injEq,oE,nc,nI,pI,o6,lj,og,decide_true,decide_false,Bool.not_true,Bool.not_false,Bool.false_eq_true,bE,n3,e3]
  refine ⟨zr (by decide),["touch","call"],rfl,?_⟩
  rw [if_neg (by simp)]
  refine ⟨_,rfl,s7 (hn _ hg.1),?_⟩
  rw [if_neg (by rw [sk (hn _ hg.1)]; simp)]
  have hin : (aV kvs (.inr b)).isSome = true:=by
   obtain ⟨v,e,_⟩:=zu (kvs:=kvs) (k:=.inr b) (by rw [hk]; exact List.mem_map.mpr ⟨b,hg.1,rfl⟩)
   rw [e]
   rfl
  rw [hin]
  exact ⟨nx,m,rfl,rfl,hg.2,by have:=hg.2.len; omega,q⟩
def jZ (b : Bool) (xs : List PV) : PV:=if b = true then .lst xs else .tup xs
def bI (k : Str -> Bool) (ps : Parts) : List (Key × PV):=ps.map fun q => (.inr q.1,jZ (k q.1) (q.2.map aj))
theorem mj (k : Str -> Bool) (ps : Parts) : (bI k ps).map (·.1) = (ps.map (·.1)).map Sum.inr:=by simp [bI,Function.comp_def]
theorem oX {kk : Str -> Bool} : ∀ {ps : Parts} {n : Str} {l : List Nd},ps.lookup n = some l -> aV (bI kk ps) (.inr n) = some (jZ (kk n) (l.map aj))
 | [],n,l,h => by cases h
 | (m,k) :: ps,n,l,h => by
  show aV ((.inr m,jZ (kk m) (k.map aj)) :: bI kk ps) (.inr n) = _
  rw [List.lookup_cons] at h
  simp only [aV]
  by_cases e : m = n
  . subst e
    simp at h
    subst h
    simp
  . rw [if_neg (fun z => e (by cases z; rfl))]
    rw [show (n == m) = false from beq_eq_false_iff_ne.mpr (Ne.symm e)] at h
    exact oX h
def xE : SpV:=fun σ Ψ _ => ∃ (ps : Parts) (k : Str -> Bool),σ 0 = some (.fr (.dic (bI k ps))) /\ GoodParts ps /\ Ψ (.fr .non) bp
theorem gR : FnScope ["value","name","nodes","index","node"] ["value"] (defScope (top 16)):=⟨rfl,rfl,rfl,by decide +kernel,rfl,by decide +kernel,by decide +kernel⟩
theorem zE (V : Env K mg base aN az aw ai) : c9 P w K mg base 4 "need_procedures" 1 [] xE:=by
 refine eA (io:=[]) V.d_need_procedures gR rfl (by decide) fun f cdv A outer s H E en hr => ⟨_,(aF (bq (dh (cY (bM (ck (ev_cb (fun _ h => dT V.b_isinstance h) dX (ae (ev_var (aa 0)) (ae (ev_c (dE rfl V.b_dict rfl) (fun _ => .ty _)) ah))))) (cY (bM (nv (fun _ _ _ h k l => oV ik ik h k l) dk dk aD (ev_cb (fun _ h => cK V.b_len h) dB (ae (ev_var (aa 0)) ah)) (mw (oT V.g_MOST_PROCEDURES) (fun _ => .int _)))) (dI (bv (fun _ _ h k => aT (kU hr.u65) h k) jW.v (mw (vK V.g_MAIN) (fun _ => .str _)) (ev_var (aa 0))))))) (aq kE) bB) (aF (bq (bv (fun _ _ h k => aT (eh hr.u64) h k) fy.v (ym [("name",1)] uZ gR.nd (aa 0) (fun _ _ _ _ _ => (bD (j:=1) gR.nd rfl (by first | exact .inl rfl | exact .inr rfl))) (fun _ _ _ _ _ => (lw (bM (ck (ev_call (fun _ => .nil) (fun _ h => aY (wL V) (hr.mono (by decide)) h) (ae (ev_var (aa 1)) ah)))))) (fun _ _ _ _ _ => (ev_var (aa 1))) eG) (dv ah)) (aq kE) bB) (aq (fM (passes_of rfl) rfl (eC (ev_cb (fun _ h => iS V.b_sorted h) jY (ae (ev_var (aa 0)) ah))) (bD (j:=1) gR.nd rfl (by first | exact .inl rfl | exact .inr rfl)) (aF (eP (j:=2) gR.nd rfl (by first | exact .inl rfl | exact .inr rfl) (ev_op (fun _ _ h k => aE hr.u9 h k (fun _ _ => rfl)) aS (ev_var (aa 0)) (ev_var (aa 1)))) (aF (bq (dh (cY (bM (ck (adQ (fun _ h => ady V.b_isinstance V.b_list V.b_tuple h) (ev_var (aa 2))))) (dI (bM (nv (fun _ _ _ h k l => oV ik ik h k l) dk dk aD (ev_cb (fun _ h => cK V.b_len h) dB (ae (ev_var (aa 2)) ah)) (mw (oT V.g_MOST_NODES) (fun _ => .int _))))))) (aq kE) bB) (aq (aas (fM (passes_of rfl) rfl (acS (fun _ h => abz rfl V.b_enumerate h) (ae (ev_var (aa 2)) ah)) (nB (n:=2) rfl (i3 (bD (j:=3) gR.nd rfl (by first | exact .inl rfl | exact .inr rfl)) (i3 (bD (j:=4) gR.nd rfl (by first | exact .inl rfl | exact .inr rfl)) oF))) (aq (bq (bM (ck (ev_call (fun _ => .nil) (fun _ h => aY (xr V) (hr.mono (by decide)) h) (ae (ev_var (aa 4)) (ae (ev_cb (fun _ h => cK V.b_len h) dB (ae (ev_var (aa 2)) ah)) (ae (ev_var (aa 0)) ah)))))) (aq kE) bB))) (fM (passes_of rfl) rfl (abi (fun _ h => aa7 rfl V.b_enumerate h) (ae (ev_var (aa 2)) ah)) (nB (n:=2) rfl (i3 (bD (j:=3) gR.nd rfl (by first | exact .inl rfl | exact .inr rfl)) (i3 (bD (j:=4) gR.nd rfl (by first | exact .inl rfl | exact .inr rfl)) oF))) (aq (bq (bM (ck (ev_call (fun _ => .nil) (fun _ h => aY (xr V) (hr.mono (by decide)) h) (ae (ev_var (aa 4)) (ae (ev_cb (fun _ h => cK V.b_len h) dB (ae (ev_var (aa 2)) ah)) (ae (ev_var (aa 0)) ah)))))) (aq kE) bB))))))))))),?_⟩
 rintro σ Ψ ΨE ⟨ps,kk,h0,hg,q⟩
 have hkl : (bI kk ps).length = ps.length:=by simp [bI]
 have hmain : (aV (bI kk ps) (.inr "main")).isSome = true:=by
  obtain ⟨l,h1,_⟩:=dW hg.main
  rw [oX h1]
  rfl
 have hnames : ∀ s ∈ ps.map (·.1),bU s:=fun s hs => by
  obtain ⟨q,hq,rfl⟩:=List.mem_map.mp hs
  exact hg.name q hq
 refine fo (σ1:=σ) (fun R hR => ?_) ?_
 . have h1 : ((1 : Int) <= ((bI kk ps).length : Int)):=by have:=hg.len.1; omega
   have h2 : (((bI kk ps).length : Int) <= 6):=by have:=hg.len.2; omega
   simp only [VVQ,h0,bW,ty_dict,Bool.not_true,Bool.false_eq_true,h1,h2,decide_true,hmain]
   exact hR
 refine a8 (M:=fun τ => τ 0 = some (.fr (.dic (bI kk ps)))) ?_ fun R hR => ?_
 rotate_left
 . simp only [VVQ,h0]
   refine iw (us:=[1]) (fun _ => false) id (zr (by rw [List.length_map]; have:=hg.len.2; omega)) (fun x hx => ?_) ?_
   . obtain ⟨kv,hkv,rfl⟩:=List.mem_map.mp hx
     obtain ⟨q0,hq,rfl⟩:=List.mem_map.mp hkv
     refine ⟨_,rfl,fun A B hA hB => ?_⟩
     simp only [VVQ,kP,v1]
     refine ⟨_,rfl,s7 (hg.name q0 hq),?_⟩
     rw [sk (hg.name q0 hq),if_neg (by simp)]
     exact hA rfl _ fun i hi => uR i hi
   . simp only [VVQ,ua,List.map_nil]
     refine ⟨zr (by decide),mC (fun p hp => by cases hp),?_⟩
     rw [if_neg (by simp)]
     exact hR _ (by simpa [ac] using h0)
 clear h0
 intro σ h0
 . simp only [VVQ,h0]
   refine ⟨ps.map (·.1),mj _ ps,by rw [List.length_map]; have:=hg.len.2; omega,fun ys hys _ => ?_⟩
   refine dP (I:=fun r τ => (∃ v : List Str,r = v.map PV.str /\ ∀ y ∈ v,y ∈ ps.map (·.1)) /\ τ 0 = some (.fr (.dic (bI kk ps)))) ?_ ?_ _ _ ⟨⟨ys,rfl,fun y hy => hys.subset hy⟩,h0⟩
   . rintro τ _
     show Ψ (.fr .non) (bN [] τ)
     rw [bE]
     exact q
   . rintro x r τ ⟨⟨v,hv,hvm⟩,e0⟩
     cases v with
     | nil => cases hv
     | cons y v =>
      obtain ⟨rfl,rfl⟩:=List.cons.inj hv
      obtain ⟨l,hl1,hl2⟩:=dW (hvm y List.mem_cons_self)
      have hnod : 1 <= l.length /\ l.length <= 12:=hg.nodes _ hl2
      have hok:=hg.ok _ hl2
      refine ⟨_,rfl,fun R2 hR2 => ?_⟩
      refine a8 (M:=fun τ => τ 0 = some (.fr (.dic (bI kk ps))) /\ τ 1 = some (.fr (.str y)) /\ τ 2 = some (.fr (jZ (kk y) (l.map aj)))) ?_ fun R3 hR3 => ?_
      rotate_left
      . simp only [VVQ,e0,oX hl1]
        exact hR3 _ ⟨by simpa [ac] using e0,by simp [ac],by simp [ac]⟩
      clear e0
      rintro τ ⟨e0,e1,e2⟩
      cases hkk : kk y with
      | true =>
       have e2 : τ 2 = some (.fr (.lst (l.map aj))):=by rw [e2,hkk]; rfl
       refine fo (σ1:=τ) (fun R3 hR3 => ?_) ?_
       . have h1 : ((1 : Int) <= ((l.map aj).length : Int)):=by rw [List.length_map]; omega
         have h2 : (((l.map aj).length : Int) <= 12):=by rw [List.length_map]; omega
         simp only [VVQ,e2,h1,h2,bW,decide_true,Bool.not_true,Bool.false_eq_true]
         exact ⟨ty_list,ty_tuple,by rw [if_neg (by simp)]; exact hR3⟩
       . simp only [VVQ,e2]
         refine dP (I:=fun r τ => (∃ (k : Nat) (v : List Nd),r = ((v.map aj).zipIdx k).map (fun q => PV.tup [.int (q.2 : Int),q.1]) /\ ∀ n ∈ v,n ∈ l) /\ τ 0 = some (.fr (.dic (bI kk ps))) /\ τ 2 = some (.fr (.lst (l.map aj)))) ?_ ?_ _ _ ⟨⟨0,l,rfl,fun _ h => h⟩,e0,e2⟩
         . rintro τ ⟨_,e0,_⟩
           exact hR2 _ ⟨⟨v,rfl,fun z hz => hvm z (List.mem_cons_of_mem _ hz)⟩,e0⟩
         . rintro x r τ ⟨⟨k,v',hv',hn'⟩,e0,e2⟩
           cases v' with
           | nil => cases hv'
           | cons n v' =>
            rw [List.map_cons,List.zipIdx_cons,List.map_cons] at hv'
            obtain ⟨rfl,rfl⟩:=List.cons.inj hv'
            refine ⟨_,rfl,fun R4 hR4 => ?_⟩
            simp only [VVQ,e0,e2,qR]
            refine ⟨n,l.length,bI kk ps,ps.map (·.1),rfl,by rw [List.length_map],rfl,mj _ ps,hnames,hok n (hn' n List.mem_cons_self),by omega,?_⟩
            rw [if_neg (by simp)]
            exact hR4 _ ⟨⟨k + 1,v',rfl,fun z hz => hn' z (List.mem_cons_of_mem _ hz)⟩,by simpa [ac] using e0,by simpa [ac] using e2⟩
      | false =>
       have e2 : τ 2 = some (.fr (.tup (l.map aj))):=by rw [e2,hkk]; rfl
       refine fo (σ1:=τ) (fun R3 hR3 => ?_) ?_
       . have h1 : ((1 : Int) <= ((l.map aj).length : Int)):=by rw [List.length_map]; omega
         have h2 : (((l.map aj).length : Int) <= 12):=by rw [List.length_map]; omega
         simp only [VVQ,e2,h1,h2,bW,decide_true,Bool.not_true,Bool.false_eq_true]
         exact ⟨ty_list,ty_tuple,by rw [if_neg (by decide)]; exact hR3⟩
       . simp only [VVQ,e2,false_or]
         refine dP (I:=fun r τ => (∃ (k : Nat) (v : List Nd),r = ((v.map aj).zipIdx k).map (fun q => PV.tup [.int (q.2 : Int),q.1]) /\ ∀ n ∈ v,n ∈ l) /\ τ 0 = some (.fr (.dic (bI kk ps))) /\ τ 2 = some (.fr (.tup (l.map aj)))) ?_ ?_ _ _ ⟨⟨0,l,rfl,fun _ h => h⟩,e0,e2⟩
         . rintro τ ⟨_,e0,_⟩
           exact hR2 _ ⟨⟨v,rfl,fun z hz => hvm z (List.mem_cons_of_mem _ hz)⟩,e0⟩
         . rintro x r τ ⟨⟨k,v',hv',hn'⟩,e0,e2⟩
           cases v' with
           | nil => cases hv'
           | cons n v' =>
            rw [List.map_cons,List.zipIdx_cons,List.map_cons] at hv'
            obtain ⟨rfl,rfl⟩:=List.cons.inj hv'
            refine ⟨_,rfl,fun R4 hR4 => ?_⟩
            simp only [VVQ,e0,e2,qR]
            refine ⟨n,l.length,bI kk ps,ps.map (·.1),rfl,by rw [List.length_map],rfl,mj _ ps,hnames,hok n (hn' n List.mem_cons_self),by omega,?_⟩
            rw [if_neg (by simp)]
            exact hR4 _ ⟨⟨k + 1,v',rfl,fun z hz => hn' z (List.mem_cons_of_mem _ hz)⟩,by simpa [ac] using e0,by simpa [ac] using e2⟩
def fJ (S : List Str) : List (Key × PV):=S.map fun b => (.inr b,.bl true)
theorem yv (S : List Str) : (fJ S).map (·.1) = S.map Sum.inr:=by simp [fJ,Function.comp_def]
theorem adU {S : List Str} {b : Str} : eF (fJ S) (.inr b) (.bl true) = if b ∈ S then fJ S else fJ (S ++ [b]):=by
 have hk : (.inr b : Key) ∈ (fJ S).map (·.1) ↔ b ∈ S:=by
  rw [yv]
  exact ⟨fun h => by obtain ⟨c,hc,e⟩:=List.mem_map.mp h; cases e; exact hc,fun h => List.mem_map.mpr ⟨b,h,rfl⟩⟩
 by_cases h : b ∈ S
 . rw [if_pos h]
   exact acO (hk.mpr h) fun kv hkv => by obtain ⟨c,_,rfl⟩:=List.mem_map.mp hkv; rfl
 . rw [if_neg h,qw (fun z => h (hk.mp z))]
   simp [fJ]
theorem jU : ∀ {S T : List Str},S.Nodup -> (∀ x ∈ S,x ∈ T) -> S.length <= T.length
 | [],T,_,_ => Nat.zero_le _
 | x :: S,T,hn,h => by
  obtain ⟨h1,h2⟩:=List.nodup_cons.mp hn
  have hx:=h x List.mem_cons_self
  have:=jU (S:=S) (T:=T.erase x) h2 fun y hy => (List.mem_erase_of_ne (fun (e : y = x) => h1 (by rw [<- e]; exact hy))).mpr (h y (List.mem_cons_of_mem _ hy))
  rw [List.length_erase_of_mem hx] at this
  have hp : 0 < T.length:=List.length_pos_of_mem hx
  rw [List.length_cons]
  omega
theorem eM {x : PV} : List.lookup (Str.ofString "parts") [(Str.ofString "parts",x)] = some x:=rfl
theorem aat : ¬ (Str.ofString "skip") = Str.ofString "touch":=by decide
theorem abr : ¬ (Str.ofString "end") = Str.ofString "touch":=by decide
def tS (C : Addr) : SpV:=fun σ Ψ _ => ∃ (ps : Parts) (c : Cell),σ 0 = some c /\ (c = .fr (aA C ps) \/ c = .ow (aA C ps)) /\ (ps.map (·.1)).Nodup /\ ps.length <= 1000 /\ (∃ B : List Str,B.length <= 60 /\ ∀ b ∈ di ps,b ∈ B) /\ (∀ q ∈ ps,q.2.length <= 1000) /\
 ∀ ys : List Str,PyProof.Rows.sortedS ys = true -> ys.Nodup -> (∀ y,y ∈ ys ↔ y ∈ di ps) -> Ψ (.fr (.tup (ys.map PV.str))) (aW c bp)
theorem o7 : FnScope ["self","found","name","node"] ["self"] (defScope (inClass (top 17) 4)):=⟨rfl,rfl,rfl,by decide +kernel,rfl,by decide +kernel,by decide +kernel⟩
theorem mU (V : Env K mg base aN az aw ai) : pJ P w K mg base 1 ai "blocks" [0] (tS ai):=by
 refine tq (io:=[0]) V.c_Program V.d_Program_blocks o7 (by decide) fun f cdv A outer s H E en hr => ⟨_,(aF (eP (j:=1) o7.nd rfl (by first | exact .inl rfl | exact .inr rfl) adG) (aF (tT v2 (passes_of rfl) rfl (eX (aa 0) V.c_Program V.n_Program_parts) (bD (j:=2) o7.nd rfl (by first | exact .inl rfl | exact .inr rfl)) (aq (fM (passes_of rfl) rfl (eC (ev_op (fun _ _ h k => aE hr.u9 h k (fun _ _ => rfl)) aS (fQ (fun _ h => eX h V.c_Program V.n_Program_parts) (ev_var (aa 0))) (ev_var (aa 2)))) (bD (j:=3) o7.nd rfl (by first | exact .inl rfl | exact .inr rfl)) (aq (bq (bv (fun _ _ h k => aT (dA hr.u64) h k) d6.v (ev_op (fun _ _ h k => aE hr.u9 h k (fun _ _ => rfl)) aS (ev_var (aa 3)) aD) bR) (aq (aaL (i:=1) (fun _ _ h k => ka hr.u9 (aa 1) h k) (ev_op (fun _ _ h k => aE hr.u9 h k (fun _ _ => rfl)) aS (ev_var (aa 3)) aD) cA)) bB))))) (aq (aZ (ev_cb (fun _ h => gA V.b_tuple h) gZ (ae (ev_cb (fun _ h => iS V.b_sorted h) jY (ae (ev_var (aa 1)) ah)) ah)))))),?_⟩
 rintro σ Ψ ΨE ⟨ps,c,h0,hc,hnd,hpl,⟨B,hB,hBm⟩,hnl,q⟩
 refine fo (σ1:=ac σ 1 (some (.ow (.dic [])))) (fun R hR => ?_) ?_
 . simp only [VVQ]
   exact hR
 refine a8 (M:=fun τ => ∃ S : List Str,S.Nodup /\ (∀ y,y ∈ S ↔ y ∈ di ps) /\ τ 0 = some c /\ τ 1 = some (.ow (.dic (fJ S)))) ?_ fun R hR => ?_
 . rintro τ ⟨S,hS,hSm,e0,e1⟩
   simp only [VVQ,e1]
   have hSl : S.length <= 60:=Nat.le_trans (jU hS fun y hy => hBm y ((hSm y).mp hy)) hB
   refine ⟨S,yv S,by omega,fun ys hys hso => ?_⟩
   have er : bN [0] τ = aW c bp:=by
    funext i
    cases i with
    | zero => simp [bN,aW,e0]
    | succ i => simp [bN,aW,bp]
   rw [er]
   exact q ys hso (hys.nodup_iff.mpr hS) fun y => by rw [hys.mem_iff]; exact hSm y
 . have hz0 : σ 0 = some c:=h0
   rcases hc with rfl | rfl
   all_goals
    simp only [aA] at h0
    simp only [VVQ,h0,eM]
    refine dP (I:=fun r τ => ∃ (u v : Parts) (S : List Str),ps = u ++ v /\ r = v.map (fun q => PV.str q.1) /\ S.Nodup /\ (∀ y,y ∈ S ↔ y ∈ di u) /\ τ 0 = σ 0 /\ τ 1 = some (.ow (.dic (fJ S)))) ?_ ?_ _ _ ⟨[],ps,[],rfl,by simp [aX,kP,Function.comp_def],.nil,fun y => by simp [di],rfl,rfl⟩
    . rintro τ ⟨u,v,S,h,h',hS,hSm,e0,e1⟩
      cases v with
      | cons _ _ => cases h'
      | nil =>
       rw [List.append_nil] at h
       subst h
       exact hR _ ⟨S,hS,hSm,e0.trans hz0,e1⟩
    . rintro x r τ ⟨u,v,S,h,h',hS,hSm,e0,e1⟩
      cases v with
      | nil => cases h'
      | cons qn v =>
       obtain ⟨rfl,rfl⟩:=List.cons.inj h'
       have hlk : ps.lookup qn.1 = some qn.2:=dH hnd (by rw [h]; simp)
       have hql : qn.2.length <= 1000:=hnl qn (by rw [h]; simp)
       refine ⟨_,rfl,fun R2 hR2 => ?_⟩
       have e0':=e0.trans h0
       simp only [VVQ,e0',eM,jk hlk]
       refine dP (I:=fun r' τ => ∃ (a b : List Nd) (S : List Str),qn.2 = a ++ b /\ r' = b.map aj /\ S.Nodup /\ (∀ y,y ∈ S ↔ y ∈ di u \/ y ∈ a.filterMap cO) /\ τ 0 = σ 0 /\ τ 1 = some (.ow (.dic (fJ S)))) ?_ ?_ _ _ ⟨[],qn.2,S,rfl,rfl,hS,fun y => by simpa using hSm y,by simpa [ac] using e0,by simpa [ac] using e1⟩
       . rintro τ ⟨a,b,S,k,k',hS,hSm,e0,e1⟩
         cases b with
         | cons _ _ => cases k'
         | nil =>
          rw [List.append_nil] at k
          exact hR2 _ ⟨u ++ [qn],v,S,by rw [h]; simp,rfl,hS,fun y => by rw [hSm y,<- k]; simp [di],e0,e1⟩
       . rintro x r' τ ⟨a,b,S,k,k',hS,hSm,e0,e1⟩
         cases b with
         | nil => cases k'
         | cons nd b =>
          obtain ⟨rfl,rfl⟩:=List.cons.inj k'
          refine ⟨_,rfl,fun R3 hR3 => ?_⟩
          have hSl : S.length <= 60:=Nat.le_trans (jU hS fun y hy => hBm y (by
           rcases (hSm y).mp hy with z | z
           . rw [h]; simp only [di,List.flatMap_append,List.mem_append]; exact .inl z
           . rw [h]; simp only [di,List.flatMap_append,List.flatMap_cons,List.mem_append]; exact .inr (.inl (by rw [k,List.filterMap_append]; exact List.mem_append_left _ z)))) hB
          have hsame : cO nd = none -> R3 (ac τ 3 (some (.fr (aj nd)))):=fun hn => hR3 _ ⟨a ++ [nd],b,S,by rw [k]; simp,rfl,hS,fun y => by rw [hSm y,List.filterMap_append]; simp [hn],by simpa [ac] using e0,by simpa [ac] using e1⟩
          cases nd with
          | fin =>
           have hsame:=hsame rfl
           simp only [aj] at hsame
           simp only [VVQ,aj,dY,iJ,PV.str.injEq,abr,decide_false,Bool.false_eq_true]
           exact hsame
          | skip nx =>
           have hsame:=hsame rfl
           simp only [aj] at hsame
           simp only [VVQ,aj,dY,iJ,PV.str.injEq,aat,decide_false,Bool.false_eq_true]
           exact hsame
          | call f nx =>
           have hsame:=hsame rfl
           simp only [aj] at hsame
           simp only [VVQ,aj,dY,iJ,PV.str.injEq,lj,decide_false,Bool.false_eq_true]
           exact hsame
          | touch bk nx =>
           simp only [VVQ,aj,dY,fN,iJ,decide_true,e1]
           refine ⟨by rw [fJ,List.length_map,sizeLine_eq]; omega,?_⟩
           rw [adU]
           by_cases hb : bk ∈ S
           . rw [if_pos hb]
             exact hR3 _ ⟨a ++ [.touch bk nx],b,S,by rw [k]; simp,rfl,hS,fun y => by
              rw [hSm y,List.filterMap_append]
              simp only [List.filterMap_cons,cO,List.filterMap_nil,List.mem_append,List.mem_singleton]
              exact ⟨fun z => z.elim .inl fun z => .inr (.inl z),fun z => z.elim .inl fun z => z.elim .inr fun z => by rw [z]; exact (hSm bk).mp hb⟩,by simpa [ac] using e0,by simp [ac]⟩
           . rw [if_neg hb]
             exact hR3 _ ⟨a ++ [.touch bk nx],b,S ++ [bk],by rw [k]; simp,rfl,List.nodup_append.mpr ⟨hS,by simp,fun x hx y hy e => hb (by rw [List.mem_singleton.mp hy] at e; rw [<- e]; exact hx)⟩,fun y => by
              rw [List.mem_append,hSm y,List.filterMap_append]
              simp only [List.filterMap_cons,cO,List.filterMap_nil,List.mem_append,List.mem_singleton]
              exact or_assoc,by simpa [ac] using e0,by simp [ac]⟩
def aC (ps : Parts) (ys : List Str) : Parts:=ys.map fun n => (n,(ps.lookup n).getD [])
theorem fh {ps : Parts} {ys : List Str} : (aC ps ys).map (·.1) = ys:=by simp [aC,Function.comp_def]
theorem jS {ps : Parts} {ys : List Str} (hn : (ps.map (·.1)).Nodup) (hp : ys.Perm (ps.map (·.1))) {q : Str × List Nd} : q ∈ aC ps ys ↔ q ∈ ps:=by
 constructor
 . intro h
   obtain ⟨y,hy,rfl⟩:=List.mem_map.mp h
   obtain ⟨l,h1,h2⟩:=dW (hp.subset hy)
   rw [h1]
   exact h2
 . intro h
   have hq : q.1 ∈ ys:=hp.symm.subset (List.mem_map.mpr ⟨q,h,rfl⟩)
   refine List.mem_map.mpr ⟨q.1,hq,?_⟩
   rw [dH hn (l:=q.2) h]
   rfl
theorem km {ps : Parts} {ys : List Str} (hn : (ps.map (·.1)).Nodup) (hp : ys.Perm (ps.map (·.1))) {n : Str} : (aC ps ys).lookup n = ps.lookup n:=by
 cases h : ps.lookup n with
 | some l => exact dH (by rw [fh]; exact hp.nodup_iff.mpr hn) ((jS hn hp).mpr (ew h))
 | none =>
  cases h2 : (aC ps ys).lookup n with
  | none => rfl
  | some l =>
   have:=dH hn ((jS hn hp).mp (ew h2))
   rw [h] at this
   cases this
theorem iY {ps : Parts} {ys : List Str} (g : GoodParts ps) (hp : ys.Perm (ps.map (·.1))) : GoodParts (aC ps ys):=by
 refine ⟨by rw [fh]; exact hp.nodup_iff.mpr g.nd,?_,by rw [fh]; exact hp.symm.subset g.main,fun q hq => g.name q ((jS g.nd hp).mp hq),fun q hq => g.nodes q ((jS g.nd hp).mp hq),fun q hq n hn => ?_,?_⟩
 . have h1 : (aC ps ys).length = ps.length:=by
     have:=hp.length_eq
     simpa [aC] using this
   have:=g.len
   omega
 . have:=g.ok q ((jS g.nd hp).mp hq) n hn
   cases n with
   | fin => trivial
   | skip nx => exact this
   | touch b nx => exact this
   | call f nx => exact ⟨by rw [fh]; exact hp.symm.subset this.1,this.2⟩
 . obtain ⟨S,h1,h2⟩:=g.few
   refine ⟨S,h1,fun b hb => h2 b ?_⟩
   obtain ⟨q,hq,hb⟩:=List.mem_flatMap.mp hb
   exact List.mem_flatMap.mpr ⟨q,(jS g.nd hp).mp hq,hb⟩
def ui (C : Addr) : SpV:=fun σ Ψ _ => ∃ (ps : Parts) (k : Str -> Bool),σ 0 = some (.ow (.ins C [])) /\ σ 1 = some (.fr (.dic (bI k ps))) /\ GoodParts ps /\
 ∀ ys : List Str,ys.Perm (ps.map (·.1)) -> PyProof.Rows.sortedS ys = true -> Ψ (.fr .non) (aW (.ow (aA C (aC ps ys))) bp)
theorem kc : FnScope ["self","procedures","name"] ["self","procedures"] (defScope (inClass (top 17) 0)):=⟨rfl,rfl,rfl,by decide +kernel,rfl,by decide +kernel,by decide +kernel⟩
theorem uV (V : Env K mg base aN az aw ai) : xa P w K mg base 5 "Program" ai 2 [0] (ui ai):=by
 refine abD (io:=[0]) V.d_Program_init kc rfl (by decide) fun f cdv A outer s H E en hr => ⟨_,(aF (eE (ev_call (fun _ => .nil) (fun _ h => aY (zE V) (hr.mono (by decide)) h) (ae (ev_var (aa 1)) ah))) (aF (acz (i:=0) (fun _ h => yO (aa 0) h V.c_Program V.n_Program_parts) (aba [("name",2)] kc.nd (eC (ev_cb (fun _ h => iS V.b_sorted h) jY (ae (ev_var (aa 1)) ah))) (fun _ _ _ _ _ => (bD (j:=2) kc.nd rfl (by first | exact .inl rfl | exact .inr rfl))) (fun _ _ _ _ _ => jn) (fun _ _ _ _ _ => (ev_var (aa 2))) (fun _ _ _ _ _ => (ev_cb (fun _ h => gA V.b_tuple h) gZ (ae (ev_op (fun _ _ h k => aE hr.u9 h k (fun _ _ => rfl)) aS (ev_var (aa 1)) (ev_var (aa 2))) ah))) eG)) (aq (bq (bv (fun _ _ h k => aT lF h k) dk.v (ev_cb (fun _ h => cK V.b_len h) dB (ae (jb (fun _ h => iQ (mU V) (hr.mono (by decide)) h) (ev_var (aa 0))) ah)) (mw (oT V.g_MOST_BLOCKS) (fun _ => .int _))) (aq kE) bB)))),?_⟩
 rintro σ Ψ ΨE ⟨ps,kk,h0,h1,hg,q⟩
 refine fo (σ1:=σ) (fun R hR => ?_) ?_
 . simp only [VVQ,h1,xE]
   exact ⟨ps,kk,rfl,hg,hR⟩
 refine a8 (M:=fun τ => ∃ ys : List Str,ys.Perm (ps.map (·.1)) /\ PyProof.Rows.sortedS ys = true /\ τ 0 = some (.ow (aA ai (aC ps ys)))) ?_ fun R hR => ?_
 . rintro τ ⟨ys,hys,hso,e0⟩
   have hgr:=iY hg hys
   obtain ⟨S,hS1,hS2⟩:=hgr.few
   have e0':=e0
   simp only [aA] at e0'
   simp only [VVQ,e0',tS]
   refine ⟨rfl,aC ps ys,_,rfl,.inr rfl,hgr.nd,by have:=hgr.len.2; omega,⟨S,by omega,hS2⟩,fun q hq => by have:=(hgr.nodes q hq).2; omega,fun zs _ hz hzm => ?_⟩
   have hz6 : zs.length <= 6:=Nat.le_trans (jU hz fun y hy => hS2 y ((hzm y).mp hy)) hS1
   rw [if_neg (by rw [List.length_map]; simp; omega)]
   have er : ∀ c,bN [0] (ac τ 0 (some c)) = aW c bp:=fun c => by
    funext i
    cases i with
    | zero => simp [bN,aW,ac]
    | succ i => simp [bN,aW,bp]
   rw [er]
   exact q ys hys hso
 . simp only [VVQ,h1]
   refine ⟨ps.map (·.1),mj _ ps,by rw [List.length_map]; have:=hg.len.2; omega,fun ys hys hso => ?_⟩
   have hyn : ys.Nodup:=hys.nodup_iff.mpr hg.nd
   have hyl : ys.length <= 6:=by rw [hys.length_eq,List.length_map]; exact hg.len.2
   refine vZ (I:=fun r acc τ => ∃ u v : List Str,ys = u ++ v /\ r = v.map PV.str /\ acc = aX (aC ps u) /\ τ 0 = some (.ow (.ins ai [])) /\ τ 1 = some (.fr (.dic (bI kk ps)))) ?_ ?_ _ _ _ ⟨[],ys,rfl,rfl,rfl,by simpa [ac] using h0,by simpa [ac] using h1⟩
   . rintro acc τ ⟨u,v,h,h',rfl,e0,e1⟩
     cases v with
     | cons _ _ => cases h'
     | nil =>
      rw [List.append_nil] at h
      subst h
      simp only [e0]
      exact ⟨trivial,by decide,hR _ ⟨ys,hys,hso,by simp [ac,hH,aA]⟩⟩
   . rintro x r acc τ ⟨u,v,h,h',rfl,e0,e1⟩
     cases v with
     | nil => cases h'
     | cons y v =>
      obtain ⟨rfl,rfl⟩:=List.cons.inj h'
      obtain ⟨l,hl1,_⟩:=dW (hys.subset (show y ∈ ys by rw [h]; simp))
      have hyu : y ∉ u:=fun z => by
       rw [h] at hyn
       exact (List.nodup_append.mp hyn).2.2 y z y (by simp) rfl
      have ul : u.length <= 6:=by
       have:=congrArg List.length h
       rw [List.length_append] at this
       omega
      refine ⟨_,rfl,fun R2 hR2 => ?_⟩
      cases hkk : kk y
      all_goals
       simp only [VVQ,e1,oX hl1,hkk,jZ,Bool.false_eq_true,if_true,if_false]
       refine ⟨by simp only [aX,aC,List.length_map]; rw [sizeLine_eq]; omega,hR2 _ _ ⟨u ++ [y],v,by rw [h]; simp,rfl,?_,by simpa [ac,ay] using e0,by simpa [ac,ay] using e1⟩⟩
       rw [qw (by
        rw [yH,fh]
        exact fun z => hyu (by obtain ⟨c,hc,e⟩:=List.mem_map.mp z; cases e; exact hc))]
       simp [aX,aC,hl1]
def nE (p : PV) : Prop:=jK p /\ ∀ xs,p = .tup xs -> xs.length <= 20000 /\ ∀ x ∈ xs,jK x
def cP (ps : Parts) : PV -> Bool
 | .tup [.str n,.int i] => (match ps.lookup n with
  | some l => decide (0 <= i) && decide (i < (l.length : Int))
  | none => false)
 | _ => false
def wx (C : Addr) : SpV:=fun σ Ψ _ => ∃ (ps : Parts) (p : PV),σ 0 = some (.fr (aA C ps)) /\ σ 1 = some (.fr p) /\ nE p /\ Ψ (.fr (.bl (cP ps p))) bp
theorem nD {ps : Parts} {n : Str} : (aV (aX ps) (.inr n)).isSome = (ps.lookup n).isSome:=by
 cases h : ps.lookup n with
 | some l => rw [jk h]; rfl
 | none =>
  cases h2 : aV (aX ps) (.inr n) with
  | none => rfl
  | some v =>
   have:=xH h2
   rw [yH] at this
   obtain ⟨c,hc,e⟩:=List.mem_map.mp this
   cases e
   obtain ⟨l,h3,_⟩:=dW hc
   rw [h] at h3
   cases h3
theorem ug : ((((1 + 1 : Nat) : Int)) = 2) = True:=eq_true (by omega)
theorem aaR : FnScope ["program","value"] ["program","value"] (defScope (top 18)):=⟨rfl,rfl,rfl,by decide +kernel,rfl,by decide +kernel,by decide +kernel⟩
theorem acN (V : Env K mg base aN az aw ai) : c9 P w K mg base 2 "is_place" 2 [] (wx ai):=by
 refine eA (io:=[]) V.d_is_place aaR rfl (by decide) fun f cdv A outer s H E en hr => ⟨_,(aF (bq (dh (cY (bM (ck (ev_cb (fun _ h => dT V.b_isinstance h) dX (ae (ev_var (aa 1)) (ae (ev_c (dE rfl V.b_tuple rfl) (fun _ => .ty _)) ah))))) (cY (bv (fun _ _ h k => aT (eh hr.u64) h k) fy.v (ev_cb (fun _ h => cK V.b_len h) dB (ae (ev_var (aa 1)) ah)) aD) (dI (bM (ck (ev_cb (fun _ h => dT V.b_isinstance h) dX (ae (ev_op (fun _ _ h k => aE hr.u9 h k (fun _ _ => rfl)) aS (ev_var (aa 1)) aD) (ae (ev_c (dE rfl V.b_str rfl) (fun _ => .ty _)) ah))))))))) (aq (aZ cA)) bB) (aF (bq (dh (cY (bv (fun _ _ h k => aT (kU hr.u65) h k) jW.v (ev_op (fun _ _ h k => aE hr.u9 h k (fun _ _ => rfl)) aS (ev_var (aa 1)) aD) (fQ (fun _ h => eX h V.c_Program V.n_Program_parts) (ev_var (aa 0)))) (dI (bM (ck (ev_call (fun _ => .nil) (fun _ h => aY (zM V) (hr.mono (by decide)) h) (ae (ev_op (fun _ _ h k => aE hr.u9 h k (fun _ _ => rfl)) aS (ev_var (aa 1)) aD) ah))))))) (aq (aZ cA)) bB) (aq (aZ (aeM (fun _ _ _ h k l => adz ik lW h k l) dk dk aD (ev_op (fun _ _ h k => aE hr.u9 h k (fun _ _ => rfl)) aS (ev_var (aa 1)) aD) (ev_cb (fun _ h => cK V.b_len h) dB (ae (ev_op (fun _ _ h k => aE hr.u9 h k (fun _ _ => rfl)) aS (fQ (fun _ h => eX h V.c_Program V.n_Program_parts) (ev_var (aa 0))) (ev_op (fun _ _ h k => aE hr.u9 h k (fun _ _ => rfl)) aS (ev_var (aa 1)) aD)) ah))))))),?_⟩
 rintro σ Ψ ΨE ⟨ps,p,h0,h1,hp,q⟩
 simp only [aA] at h0
 by_cases ht : ∃ xs,p = .tup xs
 rotate_left
 . have e : cP ps p = false:=by
     cases p <;> first | rfl | exact absurd ⟨_,rfl⟩ ht
   rw [e] at q
   cases p <;> first | exact absurd hp.1 Bool.false_ne_true | exact absurd ⟨_,rfl⟩ ht | (simp only [VVQ,cL,h1,ju,bW,Bool.not_false,Bool.not_true,bE]; exact ⟨ty_tuple,q⟩)
 obtain ⟨xs,rfl⟩:=ht
 obtain ⟨hxl,hxt⟩:=hp.2 xs rfl
 by_cases hx2 : ∃ a b,xs = [a,b]
 rotate_left
 . have e : cP ps (.tup xs) = false:=by
     unfold cP
     split
     . rename_i n i e; cases e; exact absurd ⟨_,_,rfl⟩ hx2
     . rfl
   have e2 : ¬ ((xs.length : Int) = 2):=fun z => by
    match xs,z with
    | [a,b],_ => exact hx2 ⟨a,b,rfl⟩
   rw [e] at q
   simp only [VVQ,cL,h1,bW,Bool.not_true,Bool.not_false,ia,PV.int.injEq,e2,decide_false,bE,Bool.false_eq_true]
   exact ⟨ty_tuple,q⟩
 obtain ⟨a,b,rfl⟩:=hx2
 by_cases hs : ∃ n,a = .str n
 rotate_left
 . have e : cP ps (.tup [a,b]) = false:=by
     unfold cP
     split
     . rename_i n i e; cases e; exact absurd ⟨_,rfl⟩ hs
     . rfl
   rw [e] at q
   have ha:=hxt a (by simp)
   cases a <;> first | exact absurd ha Bool.false_ne_true | exact absurd ⟨_,rfl⟩ hs | (simp only [VVQ,cL,h1,ju,bW,dY,fN,ia,PV.int.injEq,ug,decide_true,Bool.not_false,Bool.not_true,Bool.false_eq_true,bE]; exact ⟨ty_tuple,ty_str,q⟩)
 obtain ⟨n,rfl⟩:=hs
 by_cases hi : ∃ i,b = .int i
 rotate_left
 . have e : cP ps (.tup [.str n,b]) = false:=by
     unfold cP
     split
     . rename_i n i e; cases e; exact absurd ⟨_,rfl⟩ hi
     . rfl
   rw [e] at q
   have hb:=hxt b (by simp)
   have hb' : ot b = false:=by cases b <;> first | rfl | exact absurd ⟨_,rfl⟩ hi
   simp only [VVQ,cL,h0,h1,eM,v1,ju,bW,dY,fN,ia,PV.int.injEq,ug,decide_true,Bool.not_false,Bool.not_true,Bool.false_eq_true,bE,nD]
   refine ⟨ty_tuple,ty_str,?_⟩
   cases hl : ps.lookup n with
   | none =>
    simp only [Option.isSome_none,Bool.not_false,if_true]
    exact q
   | some l =>
    simp only [Option.isSome_some,Bool.not_true,Bool.false_eq_true,if_false]
    refine ⟨_,rfl,hb,?_⟩
    rw [hb',if_pos (by simp)]
    exact q
 obtain ⟨i,rfl⟩:=hi
 simp only [VVQ,cL,h0,h1,eM,v1,ju,bW,dY,fN,ia,PV.int.injEq,ug,decide_true,Bool.not_false,Bool.not_true,Bool.false_eq_true,bE,nD]
 refine ⟨ty_tuple,ty_str,?_⟩
 cases hl : ps.lookup n with
 | none =>
  have e : cP ps (.tup [.str n,.int i]) = false:=by simp only [cP,hl]
  rw [e] at q
  simp only [Option.isSome_none,Bool.not_false,if_true]
  exact q
 | some l =>
  have e : cP ps (.tup [.str n,.int i]) = (decide (0 <= i) && decide (i < (l.length : Int))):=by simp only [cP,hl]
  rw [e] at q
  simp only [Option.isSome_some,Bool.not_true,Bool.false_eq_true,if_false]
  refine ⟨_,rfl,rfl,?_⟩
  simp only [ot,Bool.not_true,Bool.false_eq_true,if_false,jk hl,List.length_map]
  by_cases h0' : 0 <= i
  . simp only [h0',decide_true,if_true,Bool.true_and] at q ⊢
    exact q
  . simp only [h0',decide_false,Bool.false_eq_true,if_false,Bool.false_and] at q ⊢
    exact q
def we (C CE : Addr) : SpV:=fun σ Ψ ΨE => ∃ (ps : Parts) (p : PV),σ 0 = some (.fr (aA C ps)) /\ σ 1 = some (.fr p) /\ nE p /\ (cP ps p = true -> Ψ (.fr .non) bp) /\ (cP ps p = false -> ΨE CE [("value",p)] bp)
theorem acV : FnScope ["program","value"] ["program","value"] (defScope (top 19)):=⟨rfl,rfl,rfl,by decide +kernel,rfl,by decide +kernel,by decide +kernel⟩
theorem aaq (V : Env K mg base aN az aw ai) : c9 P w K mg base 3 "need_place" 2 [] (we ai aw):=by
 refine zm (io:=[]) V.d_need_place acV rfl (by decide) fun f cdv A outer s H E en hr S0 Fr F0 XE xl => ⟨_,(aq (bq (bM (ck (ev_call (fun _ => .nil) (fun _ h => aY (acN V) (hr.mono (by decide)) h) (ae (ev_var (aa 0)) (ae (ev_var (aa 1)) ah))))) (aq (yI xl V.x_BadPlace (hr.mono (by decide)) (ev_var (aa 1)))) bB)),?_⟩
 rintro σ Ψ ⟨ps,p,h0,h1,hp,q1,q2⟩
 simp only [VVQ,h0,h1,wx]
 refine ⟨ps,p,rfl,rfl,hp,?_⟩
 cases hb : cP ps p with
 | true =>
  simp only [Bool.not_true,Bool.false_eq_true,if_false,bE]
  exact q1 hb
 | false =>
  simp only [Bool.not_false,if_true,bE]
  exact q2 hb
def zO (C CE : Addr) : SpV:=fun σ Ψ ΨE => ∃ (ps : Parts) (p : PV),σ 0 = some (.fr (aA C ps)) /\ σ 1 = some (.fr p) /\ nE p /\
 (∀ (n : Str) (l : List Nd) (i : Nat) (hi : i < l.length),p = .tup [.str n,.int (i : Int)] -> ps.lookup n = some l -> Ψ (.fr (aj l[i])) bp) /\ (cP ps p = false -> ΨE CE [("value",p)] bp)
theorem ab3 {ps : Parts} {p : PV} (h : cP ps p = true) : ∃ (n : Str) (l : List Nd) (i : Nat),i < l.length /\ p = .tup [.str n,.int (i : Int)] /\ ps.lookup n = some l:=by
 unfold cP at h
 split at h
 . rename_i n i
   split at h
   . rename_i l hl
     simp only [Bool.and_eq_true,decide_eq_true_eq] at h
     obtain ⟨j,rfl⟩:=Int.eq_ofNat_of_zero_le h.1
     exact ⟨n,l,j,by omega,rfl,hl⟩
   . cases h
 . cases h
theorem aaY : FnScope ["self","place"] ["self","place"] (defScope (inClass (top 17) 6)):=⟨rfl,rfl,rfl,by decide +kernel,rfl,by decide +kernel,by decide +kernel⟩
theorem aeP (V : Env K mg base aN az aw ai) : mN P w K mg base 4 ai "node" 2 [] (zO ai aw):=by
 refine xV (io:=[]) V.c_Program V.d_Program_node aaY rfl (by decide) fun f cdv A outer s H E en hr S0 Fr F0 XE xl => ⟨_,(aF (eE (yp (fun _ => .nil) (fun _ h => xT (aaq V) (hr.mono (by decide)) xl.passes h) (ae (ev_var (aa 0)) (ae (ev_var (aa 1)) ah)))) (aq (aZ (ev_op (fun _ _ h k => aE hr.u9 h k (fun _ _ => rfl)) aS (ev_op (fun _ _ h k => aE hr.u9 h k (fun _ _ => rfl)) aS (fQ (fun _ h => eX h V.c_Program V.n_Program_parts) (ev_var (aa 0))) (ev_op (fun _ _ h k => aE hr.u9 h k (fun _ _ => rfl)) aS (ev_var (aa 1)) aD)) (ev_op (fun _ _ h k => aE hr.u9 h k (fun _ _ => rfl)) aS (ev_var (aa 1)) aD))))),?_⟩
 rintro σ Ψ ⟨ps,p,h0,h1,hp,q1,q2⟩
 have h0':=h0
 simp only [aA] at h0'
 simp only [VVQ,cL,h0',h1,we,eM]
 refine ⟨ps,p,rfl,rfl,hp,fun h => ?_,fun h => ?_⟩
 . obtain ⟨n,l,i,hi,rfl,hl⟩:=ab3 h
   have hat : atI (l.map aj) (i : Int) = some (aj l[i]):=by
    rw [atI_nat (by rw [List.length_map]; exact hi),List.getElem_map]
   simp only [VVQ,dY,fN,jk hl,hat,bE]
   exact q1 n l i hi rfl hl
 . rw [bE]
   exact q2 h
def mW : SpV:=fun σ Ψ _ => ∃ (n m i : Nat),σ 0 = some (.ab (drw n)) /\ σ 1 = some (.fr (.int (m : Int))) /\ σ 2 = some (.fr (.int (i : Int))) /\ i < m /\ m <= 1000 /\ n + 5 < dw /\ ∀ (nx : List Nat) (n' : Nat),ie m nx -> n' <= n + 4 -> Ψ (.fr (de nx)) (bt n')
theorem um : FnScope ["_law_draw","_law_many","_law_index","_law_found","_law_turn"] ["_law_draw","_law_many","_law_index"] (defScope (top 26)):=⟨rfl,rfl,rfl,by decide +kernel,rfl,by decide +kernel,by decide +kernel⟩
theorem uC (V : Env K mg base aN az aw ai) : c9 P w K mg base 3 "_law_next" 3 [0] mW:=by
 refine eA (io:=[0]) V.d__law_next um rfl (by decide) fun f cdv A outer s H E en hr => ⟨_,(aF (eP (j:=3) um.nd rfl (by first | exact .inl rfl | exact .inr rfl) (ev_if (dh (wy (bv (fun _ _ h k => aT lW h k) dk.v (ev_op (fun _ _ h k => bZ gb h k) jV (ev_var (aa 2)) aD) (ev_var (aa 1))) (vX (bv (fun _ _ h k => aT lF h k) dk.v (ev_call (fun _ => .nil) (fun _ h => aY (fS V) (hr.mono (by decide)) h) (ae (ev_var (aa 0)) (ae aD ah))) aD)))) (dv (ae (ev_op (fun _ _ h k => bZ gb h k) jV (ev_var (aa 2)) aD) ah)) (dv ah))) (aF (fM (passes_of rfl) rfl (mH (fun _ h => lG rfl V.b_range h) (ae (ev_call (fun _ => .nil) (fun _ h => aY (uG V) (hr.mono (by decide)) h) (ae (ev_var (aa 0)) (ae (dv (ae aD (ae aD (ae aD (ae aD (ae aD (ae aD ah))))))) ah))) ah)) (bD (j:=4) um.nd rfl (by first | exact .inl rfl | exact .inr rfl)) (aq (eE (fG (i:=3) (fun _ h => fX (aa 3) h) iF (ae (ev_call (fun _ => .nil) (fun _ h => aY (fS V) (hr.mono (by decide)) h) (ae (ev_var (aa 0)) (ae (ev_var (aa 1)) ah))) ah))))) (aq (aZ (ev_cb (fun _ h => gA V.b_tuple h) gZ (ae (ev_cb (fun _ h => abF V.b_sorted V.b_set h) adi (ae (ev_var (aa 3)) ah)) ah)))))),?_⟩
 rintro σ Ψ ΨE ⟨n,m,i,h0,h1,h2,hi,hm,hn,q⟩
 have hmd : dw = 10 ^ 9:=rfl
 refine a8 (M:=fun τ => ∃ (n1 : Nat) (l : List Nat),n1 <= n + 1 /\ τ 0 = some (.ab (drw n1)) /\ τ 1 = some (.fr (.int (m : Int))) /\ τ 3 = some (.ow (.lst (l.map fun i => PV.int ((i : Nat) : Int)))) /\ l.length <= 1 /\ ∀ j ∈ l,j < m) ?_ fun R hR => ?_
 rotate_left
 . by_cases hc : i + 1 < m
   . have hc' : ((i : Int) + 1 < (m : Int)):=by omega
     simp only [VVQ,h0,h1,h2,hc',decide_true,if_true,eK]
     refine ⟨n,_,rfl,rfl,⟨by decide,by decide⟩,by omega,fun r r0 r1 => ?_⟩
     by_cases hr0 : r > 0
     . simp only [VVQ,hr0,decide_true,if_true,bt,h2]
       exact ⟨zr (by decide),hR _ ⟨n + 1,[i + 1],by omega,by simp [ac,aW],by simpa [ac] using h1,by simp [ac],by simp,by simpa using hc⟩⟩
     . simp only [VVQ,hr0,decide_false,Bool.false_eq_true,if_false,bt]
       exact ⟨zr (by decide),hR _ ⟨n + 1,[],by omega,by simp [ac,aW],by simpa [ac] using h1,by simp [ac],by simp,fun j hj => by cases hj⟩⟩
   . have hc' : ¬ ((i : Int) + 1 < (m : Int)):=by omega
     simp only [VVQ,h0,h1,h2,hc',decide_false,Bool.false_eq_true,if_false]
     exact ⟨zr (by decide),hR _ ⟨n,[],by omega,by simpa [ac] using h0,by simpa [ac] using h1,by simp [ac],by simp,fun j hj => by cases hj⟩⟩
 clear h0 h1 h2
 rintro τ ⟨n1,l,hn1,e0,e1,e3,hl,hlm⟩
 refine a8 (M:=fun τ => ∃ (n1 : Nat) (l : List Nat),n1 <= n + 4 /\ τ 0 = some (.ab (drw n1)) /\ τ 3 = some (.ow (.lst (l.map fun i => PV.int ((i : Nat) : Int)))) /\ l.length <= 3 /\ ∀ j ∈ l,j < m) ?_ fun R hR => ?_
 . rintro τ ⟨n2,l,hn2,e0,e3,hl,hlm⟩
   simp only [VVQ,e3]
   refine ⟨l.map fun i => ((i : Nat) : Int),by rw [List.map_map]; rfl,by rw [List.length_map]; omega,fun ys y1 y2 y3 => ?_⟩
   rw [iG (n:=n2) (by simpa [ac] using e0)]
   have hy : ∀ y ∈ ys,∃ j : Nat,y = (j : Int) /\ j < m:=fun y hyy => by
    obtain ⟨j,hj,e⟩:=List.mem_map.mp ((y2 y).mp hyy)
    exact ⟨j,e.symm,hlm j hj⟩
   have q:=q (ys.map Int.toNat) n2 ⟨?_,fun j hj => ?_⟩ hn2
   . unfold de at q
     rw [show ((ys.map Int.toNat).map fun i => PV.int ((i : Nat) : Int)) = ys.map PV.int by
      rw [List.map_map]
      refine List.map_congr_left fun y hyy => ?_
      obtain ⟨j,rfl,_⟩:=hy y hyy
      rfl] at q
     exact q
   . rw [List.pairwise_map]
     refine List.Pairwise.imp_of_mem (fun {a b} ha hb hab => ?_) y1
     obtain ⟨a',rfl,_⟩:=hy a ha
     obtain ⟨b',rfl,_⟩:=hy b hb
     simp only [Int.toNat_natCast]
     omega
   . obtain ⟨y,hyy,rfl⟩:=List.mem_map.mp hj
     obtain ⟨j',rfl,h⟩:=hy y hyy
     exact h
 . simp only [VVQ,e0,nP]
   refine ⟨zr (by decide),n1,_,_,rfl,rfl,rfl,by simp,by simp,by omega,fun p hp => ?_⟩
   obtain ⟨c,rfl,hc⟩ : ∃ c : Nat,p = .int (c : Int) /\ c <= 2:=by
    simp only [List.mem_cons,List.not_mem_nil,or_false] at hp
    rcases hp with rfl | rfl | rfl | rfl | rfl | rfl
    . exact ⟨0,rfl,by omega⟩
    . exact ⟨0,rfl,by omega⟩
    . exact ⟨0,rfl,by omega⟩
    . exact ⟨1,rfl,by omega⟩
    . exact ⟨1,rfl,by omega⟩
    . exact ⟨2,rfl,by omega⟩
   simp only [VVQ,bt,aW]
   refine ⟨⟨by omega,by omega⟩,?_⟩
   rw [Int.toNat_natCast]
   refine dP (I:=fun r τ => ∃ (n2 : Nat) (l : List Nat),n2 + r.length <= n + 4 /\ l.length + r.length <= 3 /\ τ 0 = some (.ab (drw n2)) /\ τ 1 = some (.fr (.int (m : Int))) /\ τ 3 = some (.ow (.lst (l.map fun i => PV.int ((i : Nat) : Int)))) /\ ∀ j ∈ l,j < m) ?_ ?_ _ _ ⟨n1 + 1,l,by simp [eZ]; omega,by simp [eZ]; omega,by simp [ac],by simpa [ac] using e1,by simpa [ac] using e3,hlm⟩
   . rintro τ ⟨n2,l,b1,b2,e0,e1,e3,hlm⟩
     rw [List.length_nil] at b1 b2
     exact hR _ ⟨n2,l,by omega,e0,e3,by omega,hlm⟩
   . rintro x r τ ⟨n2,l,b1,b2,e0,e1,e3,hlm⟩
     rw [List.length_cons] at b1 b2
     refine ⟨_,rfl,fun R2 hR2 => ?_⟩
     simp only [VVQ,e0,e1,e3,eK]
     refine ⟨n2,m,rfl,rfl,⟨by omega,by omega⟩,by omega,fun r0 h1 h2 => ?_⟩
     obtain ⟨j,rfl⟩:=Int.eq_ofNat_of_zero_le h1
     simp only [VVQ,bt,aW,e3]
     refine ⟨by rw [List.length_map,sizeLine_eq]; omega,hR2 _ ⟨n2 + 1,l ++ [j],by omega,by simp; omega,by simp [ac],by simpa [ac] using e1,by simp [ac],fun j' hj' => ?_⟩⟩
     rcases List.mem_append.mp hj' with z | z
     . exact hlm j' z
     . rw [List.mem_singleton.mp z]; omega
theorem acn {c : VT} {a b : VS} {L : VEnds} {σ : SV} (M : SV -> Prop) (ht : ∀ Ψ : Bool -> SV -> Prop,(∀ k σ',M σ' -> Ψ k σ') -> c σ Ψ) (ha : ∀ σ',M σ' -> a L σ') (hb : ∀ σ',M σ' -> b L σ') : oY c a b L σ:=ht _ fun k σ' h => by
 cases k
 . exact hb σ' h
 . exact ha σ' h
def wo : SpV:=fun σ Ψ _ => ∃ (n k : Nat) (names bs : List Str),σ 0 = some (.ab (drw n)) /\ σ 1 = some (.fr (.lst (names.map PV.str))) /\ σ 2 = some (.fr (.lst (bs.map PV.str))) /\ σ 3 = some (.fr (.int (k : Int))) /\ (1 <= k /\ k <= 100) /\ (0 < names.length /\ names.length <= 1000) /\ (0 < bs.length /\ bs.length <= 1000) /\ (∀ b ∈ bs,bU b) /\ n + 10 * k + 2 < dw /\
 ∀ (nodes : List Nd) (n' : Nat),1 <= nodes.length -> nodes.length <= k -> (∀ x ∈ nodes,eT nodes.length names x) -> (∀ b ∈ nodes.filterMap cO,b ∈ bs) -> n' <= n + 10 * k + 1 -> Ψ (.ow (.lst (nodes.map aj))) (bt n')
theorem nX : FnScope ["_law_draw","_law_names","_law_blocks","_law_most","_law_many","_law_found","_law_index","_law_kind"] ["_law_draw","_law_names","_law_blocks","_law_most"] (defScope (top 27)):=⟨rfl,rfl,rfl,by decide +kernel,rfl,by decide +kernel,by decide +kernel⟩
theorem acH (V : Env K mg base aN az aw ai) : c9 P w K mg base 4 "_law_nodes" 4 [0] wo:=by
 refine eA (io:=[0]) V.d__law_nodes nX rfl (by decide) fun f cdv A outer s H E en hr => ⟨_,(aF (zz (j:=4) (k:=5) rfl nX.nd rfl rfl (by decide) rfl rfl (ev_op (fun _ _ h k => bZ gb h k) jV aD (ev_call (fun _ => .nil) (fun _ h => aY (fS V) (hr.mono (by decide)) h) (ae (ev_var (aa 0)) (ae (ev_var (aa 3)) ah)))) (dv ah) rfl) (aF (fM (passes_of rfl) rfl (mH (fun _ h => lG rfl V.b_range h) (ae (ev_var (aa 4)) ah)) (bD (j:=6) nX.nd rfl (by first | exact .inl rfl | exact .inr rfl)) (aF (eP (j:=7) nX.nd rfl (by first | exact .inl rfl | exact .inr rfl) (ev_call (fun _ => .nil) (fun _ h => aY (fS V) (hr.mono (by decide)) h) (ae (ev_var (aa 0)) (ae aD ah)))) (aq (bq (dh (cY (dh (wy (bv (fun _ _ h k => aT (dA hr.u64) h k) d6.v (ev_op (fun _ _ h k => bZ gb h k) jV (ev_var (aa 6)) aD) (ev_var (aa 4))) (vX (bv (fun _ _ h k => aT lF h k) dk.v (ev_call (fun _ => .nil) (fun _ h => aY (fS V) (hr.mono (by decide)) h) (ae (ev_var (aa 0)) (ae aD ah))) aD)))) (dI (bv (fun _ _ h k => aT (dA hr.u64) h k) d6.v (ev_var (aa 7)) aD)))) (aq (eE (fG (i:=5) (fun _ h => fX (aa 5) h) iF (ae (eV (ae bR ah)) ah)))) (aq (bq (bv (fun _ _ h k => aT lW h k) dk.v (ev_var (aa 7)) aD) (aq (eE (fG (i:=5) (fun _ h => fX (aa 5) h) iF (ae (eV (ae bR (ae (ev_call (fun _ => .nil) (fun _ h => aY (uG V) (hr.mono (by decide)) h) (ae (ev_var (aa 0)) (ae (ev_var (aa 2)) ah))) (ae (ev_call (fun _ => .nil) (fun _ h => aY (uC V) (hr.mono (by decide)) h) (ae (ev_var (aa 0)) (ae (ev_var (aa 4)) (ae (ev_var (aa 6)) ah)))) ah)))) ah)))) (aq (bq (bv (fun _ _ h k => aT lW h k) dk.v (ev_var (aa 7)) aD) (aq (eE (fG (i:=5) (fun _ h => fX (aa 5) h) iF (ae (eV (ae bR (ae (ev_call (fun _ => .nil) (fun _ h => aY (uG V) (hr.mono (by decide)) h) (ae (ev_var (aa 0)) (ae (ev_var (aa 1)) ah))) (ae (ev_call (fun _ => .nil) (fun _ h => aY (uC V) (hr.mono (by decide)) h) (ae (ev_var (aa 0)) (ae (ev_var (aa 4)) (ae (ev_var (aa 6)) ah)))) ah)))) ah)))) (aq (eE (fG (i:=5) (fun _ h => fX (aa 5) h) iF (ae (eV (ae bR (ae (ev_call (fun _ => .nil) (fun _ h => aY (uC V) (hr.mono (by decide)) h) (ae (ev_var (aa 0)) (ae (ev_var (aa 4)) (ae (ev_var (aa 6)) ah)))) ah))) ah)))))))))))) (aq (aZ (ev_var (aa 5)))))),?_⟩
 rintro σ Ψ ΨE ⟨n,k,names,bs,h0,h1,h2,h3,hk,hnm,hbs,hbn,hn,q⟩
 have hmd : dw = 10 ^ 9:=rfl
 refine a8 (M:=fun τ => ∃ m : Nat,1 <= m /\ m <= k /\ τ 0 = some (.ab (drw (n + 1))) /\ τ 1 = some (.fr (.lst (names.map PV.str))) /\ τ 2 = some (.fr (.lst (bs.map PV.str))) /\ τ 4 = some (.fr (.int (m : Int))) /\ τ 5 = some (.ow (.lst []))) ?_ fun R hR => ?_
 rotate_left
 . simp only [VVQ,h0,h3,eK]
   refine ⟨n,k,rfl,rfl,⟨by omega,by omega⟩,by omega,fun r r0 r1 => ?_⟩
   obtain ⟨j,rfl⟩:=Int.eq_ofNat_of_zero_le r0
   exact ⟨zr (by decide),hR _ ⟨1 + j,by omega,by omega,by simp [ac,bt,aW],by simpa [ac] using h1,by simpa [ac] using h2,by simp [ac],by simp [ac]⟩⟩
 clear h0 h1 h2 h3
 rintro τ ⟨m,hm1,hmk,e0,e1,e2,e4,e5⟩
 refine a8 (M:=fun τ => ∃ (n1 : Nat) (nodes : List Nd),n1 <= n + 10 * k + 1 /\ nodes.length = m /\ (∀ x ∈ nodes,eT m names x) /\ (∀ b ∈ nodes.filterMap cO,b ∈ bs) /\ τ 0 = some (.ab (drw n1)) /\ τ 5 = some (.ow (.lst (nodes.map aj)))) ?_ fun R hR => ?_
 . rintro τ ⟨n1,nodes,b1,rfl,b2,b3,e0,e5⟩
   simp only [VVQ,e5]
   rw [iG (n:=n1) e0]
   exact q nodes n1 hm1 hmk b2 b3 b1
 . simp only [VVQ,e4]
   refine ⟨⟨by omega,by omega⟩,?_⟩
   rw [Int.toNat_natCast]
   refine dP (I:=fun r τ => ∃ (n1 j : Nat) (nodes : List Nd),r = (List.range' j (m - j)).map (fun i => PV.int ((i : Nat) : Int)) /\ j <= m /\ n1 <= n + 10 * j + 1 /\ nodes.length = j /\ (∀ x ∈ nodes,eT m names x) /\ (∀ b ∈ nodes.filterMap cO,b ∈ bs) /\ τ 0 = some (.ab (drw n1)) /\ τ 1 = some (.fr (.lst (names.map PV.str))) /\ τ 2 = some (.fr (.lst (bs.map PV.str))) /\ τ 4 = some (.fr (.int (m : Int))) /\ τ 5 = some (.ow (.lst (nodes.map aj)))) ?_ ?_ _ _ ⟨n + 1,0,[],by simp [eZ,List.range_eq_range'],by omega,by omega,rfl,(fun x hx => by cases hx),(fun b hb => by cases hb),e0,e1,e2,e4,e5⟩
   . rintro τ ⟨n1,j,nodes,b0,b1,b2,b3,b4,b5,e0,e1,e2,e4,e5⟩
     have : m - j = 0:=by
      have:=congrArg List.length b0
      simpa using this.symm
     exact hR _ ⟨n1,nodes,by omega,by omega,b4,b5,e0,e5⟩
   . rintro x r τ ⟨n1,j,nodes,b0,b1,b2,b3,b4,b5,e0,e1,e2,e4,e5⟩
     obtain ⟨m',hm'⟩ : ∃ m',m - j = m' + 1:=by
      cases z : m - j with
      | zero => rw [z] at b0; cases b0
      | succ m' => exact ⟨m',rfl⟩
     rw [hm',List.range'_succ,List.map_cons] at b0
     obtain ⟨rfl,rfl⟩:=List.cons.inj b0
     refine ⟨_,rfl,fun R2 hR2 => ?_⟩
     have hnext : ∀ (τ' : SV) (x : Nd) (n2 : Nat),n2 <= n1 + 10 -> eT m names x -> (∀ b,cO x = some b -> b ∈ bs) -> τ' 0 = some (.ab (drw n2)) -> τ' 1 = some (.fr (.lst (names.map PV.str))) -> τ' 2 = some (.fr (.lst (bs.map PV.str))) -> τ' 4 = some (.fr (.int (m : Int))) -> τ' 5 = some (.ow (.lst (nodes.map aj ++ [aj x]))) -> R2 τ':=fun τ' x n2 c1 c2 c3 d0 d1 d2 d4 d5 => by
      refine hR2 _ ⟨n2,j + 1,nodes ++ [x],by rw [show m - (j + 1) = m' by omega],by omega,by omega,by simp [b3],fun y hy => ?_,fun b hb => ?_,d0,d1,d2,d4,by simpa using d5⟩
      . rcases List.mem_append.mp hy with z | z
        . exact b4 y z
        . rw [List.mem_singleton.mp z]; exact c2
      . rw [List.filterMap_append] at hb
        rcases List.mem_append.mp hb with z | z
        . exact b5 b z
        . obtain ⟨y,hy,e⟩:=List.mem_filterMap.mp z
          rw [List.mem_singleton.mp hy] at e
          exact c3 b e
     refine a8 (M:=fun τ => ∃ c : Nat,c < 10 /\ τ 0 = some (.ab (drw (n1 + 1))) /\ τ 1 = some (.fr (.lst (names.map PV.str))) /\ τ 2 = some (.fr (.lst (bs.map PV.str))) /\ τ 4 = some (.fr (.int (m : Int))) /\ τ 5 = some (.ow (.lst (nodes.map aj))) /\ τ 6 = some (.fr (.int (j : Int))) /\ τ 7 = some (.fr (.int (c : Int)))) ?_ fun R3 hR3 => ?_
     rotate_left
     . simp only [VVQ,e0,eK]
       refine ⟨n1,_,rfl,rfl,⟨by decide,by decide⟩,by omega,fun r0 r1 r2 => ?_⟩
       obtain ⟨c,rfl⟩:=Int.eq_ofNat_of_zero_le r1
       exact hR3 _ ⟨c,by omega,by simp [ac,bt,aW],by simpa [ac] using e1,by simpa [ac] using e2,by simpa [ac] using e4,by simpa [ac] using e5,by simp [ac],by simp [ac]⟩
     clear e0 e1 e2 e4 e5
     rintro τ ⟨c,hc,e0,e1,e2,e4,e5,e6,e7⟩
     have hnl : (nodes.map aj).length < sizeLine:=by rw [List.length_map,sizeLine_eq]; omega
     refine acn (M:=fun τ => ∃ n2 : Nat,n2 <= n1 + 2 /\ τ 0 = some (.ab (drw n2)) /\ τ 1 = some (.fr (.lst (names.map PV.str))) /\ τ 2 = some (.fr (.lst (bs.map PV.str))) /\ τ 4 = some (.fr (.int (m : Int))) /\ τ 5 = some (.ow (.lst (nodes.map aj))) /\ τ 6 = some (.fr (.int (j : Int))) /\ τ 7 = some (.fr (.int (c : Int)))) (fun Ψ hΨ => ?_) ?_ ?_
     . simp only [VVQ,e0,e4,e6,e7,eK]
       refine ⟨.inl rfl,?_⟩
       by_cases hjm : ((j : Int) + 1 = (m : Int))
       . rw [if_pos (by simp [hjm])]
         refine ⟨_,8,rfl,rfl,⟨by decide,by decide⟩,by omega,fun r r0 r1 => ?_⟩
         by_cases hr0 : 0 < r
         . rw [if_pos (by simpa using hr0)]
           exact hΨ _ _ ⟨n1 + 1 + 1,by omega,by simp [ac,bt,aW],by simpa [ac] using e1,by simpa [ac] using e2,by simpa [ac] using e4,by simpa [ac] using e5,by simpa [ac] using e6,by simpa [ac] using e7⟩
         . rw [if_neg (by simpa using hr0)]
           exact ⟨.inl rfl,hΨ _ _ ⟨n1 + 1 + 1,by omega,by simp [ac,bt,aW],by simpa [ac] using e1,by simpa [ac] using e2,by simpa [ac] using e4,by simpa [ac] using e5,by simpa [ac] using e6,by simpa [ac] using e7⟩⟩
       . rw [if_neg (by simp [hjm])]
         exact ⟨.inl rfl,hΨ _ _ ⟨n1 + 1,by omega,e0,e1,e2,e4,e5,e6,e7⟩⟩
     . clear e0 e1 e2 e4 e5 e6 e7
       rintro τ ⟨n2,hn2,e0,e1,e2,e4,e5,e6,e7⟩
       simp only [VVQ,e5]
       exact ⟨zr (by decide),hnl,hnext _ .fin n2 (by omega) trivial (fun b hb => by cases hb) (by simpa [ac] using e0) (by simpa [ac] using e1) (by simpa [ac] using e2) (by simpa [ac] using e4) (by simp [ac,aj])⟩
     clear e0 e1 e2 e4 e5 e6 e7
     rintro τ ⟨n2,hn2,e0,e1,e2,e4,e5,e6,e7⟩
     have hjlt : j < m:=by omega
     by_cases hc5 : (c : Int) < 5
     . simp only [VVQ,e0,e1,e2,e4,e5,e6,e7,hc5,decide_true,nP]
       refine ⟨n2,_,_,rfl,rfl,rfl,by rw [List.length_map]; omega,by rw [List.length_map]; omega,by omega,fun q0 hq0 => ?_⟩
       obtain ⟨b,hb,rfl⟩:=List.mem_map.mp hq0
       simp only [VVQ,bt,aW,e5,mW]
       refine ⟨n2 + 1,m,j,rfl,rfl,rfl,hjlt,by omega,by omega,fun nx n3 hnx hn3 => ?_⟩
       exact ⟨zr (by decide),hnl,hnext _ (.touch b nx) n3 (by omega) ⟨hbn b hb,hnx⟩ (fun b' hb' => by cases hb'; exact hb) (by simp [ac,bt,aW]) (by simpa [ac] using e1) (by simpa [ac] using e2) (by simpa [ac] using e4) (by simp [ac,aj])⟩
     by_cases hc8 : (c : Int) < 8
     . simp only [VVQ,e0,e1,e2,e4,e5,e6,e7,hc5,hc8,decide_true,decide_false,Bool.false_eq_true,nP]
       refine ⟨n2,_,_,rfl,rfl,rfl,by rw [List.length_map]; omega,by rw [List.length_map]; omega,by omega,fun q0 hq0 => ?_⟩
       obtain ⟨b,hb,rfl⟩:=List.mem_map.mp hq0
       simp only [VVQ,bt,aW,e5,mW]
       refine ⟨n2 + 1,m,j,rfl,rfl,rfl,hjlt,by omega,by omega,fun nx n3 hnx hn3 => ?_⟩
       exact ⟨zr (by decide),hnl,hnext _ (.call b nx) n3 (by omega) ⟨hb,hnx⟩ (fun b' hb' => by cases hb') (by simp [ac,bt,aW]) (by simpa [ac] using e1) (by simpa [ac] using e2) (by simpa [ac] using e4) (by simp [ac,aj])⟩
     . simp only [VVQ,e0,e1,e2,e4,e5,e6,e7,hc5,hc8,decide_false,Bool.false_eq_true,mW]
       refine ⟨n2,m,j,rfl,rfl,rfl,hjlt,by omega,by omega,fun nx n3 hnx hn3 => ?_⟩
       exact ⟨zr (by decide),hnl,hnext _ (.skip nx) n3 (by omega) hnx (fun b' hb' => by cases hb') (by simp [ac,bt,aW]) (by simpa [ac] using e1) (by simpa [ac] using e2) (by simpa [ac] using e4) (by simp [ac,aj])⟩
def ib : List Str:=["f","g","call","end","touch","skip","zzzzzzzz","a"]
theorem nR {s : Str} (h : decide ((1 <= s.length /\ s.length <= 8) /\ ∀ c ∈ s.cps.toList,c ∈ jw.cps.toList) = true) : bU s:=by
 have:=of_decide_eq_true h
 exact this
theorem zW : ∀ s ∈ ib,bU s:=by
 intro s hs
 simp only [ib,List.mem_cons,List.not_mem_nil,or_false] at hs
 rcases hs with rfl | rfl | rfl | rfl | rfl | rfl | rfl | rfl <;> exact nR (by decide +kernel)
theorem ad6 : bU "main":=nR (by decide +kernel)
theorem vJ : ib.Nodup /\ ("main" : Str) ∉ ib:=by decide +kernel
theorem yT {ss : List Str} (h : ∀ s ∈ ss,PyData.strOk s = true) : kr (ss.map PV.str):=fun p hp => by
 obtain ⟨s,hs,rfl⟩:=List.mem_map.mp hp
 exact ⟨by rw [au]; exact h s hs,v7⟩
theorem zX {ss : List Str} {ys : List PV} (h : ys.Perm (ss.map PV.str)) : ∃ zs : List Str,ys = zs.map PV.str /\ zs.Perm ss:=by
 have sv : ∀ y ∈ ys,∃ s,y = PV.str s:=fun y hy => by
  obtain ⟨s,_,e⟩:=List.mem_map.mp (h.subset hy)
  exact ⟨s,e.symm⟩
 let u : PV -> Str:=fun y => match y with
  | .str s => s
  | _ => Str.empty
 refine ⟨ys.map u,?_,?_⟩
 . rw [List.map_map]
   conv => lhs; rw [<- List.map_id ys]
   refine List.map_congr_left fun y hy => ?_
   obtain ⟨s,rfl⟩:=sv y hy
   rfl
 . have:=h.map u
   rw [List.map_map] at this
   have e : (u ∘ PV.str) = id:=rfl
   rw [e,List.map_id] at this
   exact this
theorem rK : ∀ ps : Parts,fK (ps.map fun q => PV.tup [.str q.1,.lst (q.2.map aj)]) = some (ap ps)
 | [] => rfl
 | q :: ps => by
  simp only [List.map_cons,fK,dU,rK ps]
  rfl
theorem rO : ∀ (ps acc : List (Key × PV)),((acc ++ ps).map (·.1)).Nodup -> gG acc ps = acc ++ ps
 | [],acc,_ => by simp [gG]
 | (k,v) :: ps,acc,h => by
  have hk : k ∉ acc.map (·.1):=fun z => by
   rw [List.map_append,List.nodup_append] at h
   exact h.2.2 k z k (by simp) rfl
  have e : gG acc ((k,v) :: ps) = gG (eF acc k v) ps:=rfl
  rw [e,qw hk,rO ps (acc ++ [(k,v)]) (by simpa using h),List.append_assoc]
  rfl
theorem zS {l : List Str} (h : l.Nodup) : (l.map (Sum.inr : Str -> Key)).Nodup:=by
 unfold List.Nodup
 rw [List.pairwise_map]
 exact List.Pairwise.imp (fun h e => h (by cases e; rfl)) h
theorem tK {ps : Parts} (h : (ps.map (·.1)).Nodup) : gG [] (ap ps) = ap ps:=by
 rw [rO _ _ (by rw [List.nil_append,qX]; exact zS h),List.nil_append]
def wc : SpV:=fun σ Ψ _ => ∃ (n c k : Nat) (bs : List Str),σ 0 = some (.ab (drw n)) /\ σ 1 = some (.fr (.int (c : Int))) /\ σ 2 = some (.fr (.int (k : Int))) /\ σ 3 = some (.fr (.lst (bs.map PV.str))) /\ (1 <= c /\ c <= 6) /\ (1 <= k /\ k <= 12) /\ (0 < bs.length /\ bs.length <= 6) /\ (∀ b ∈ bs,bU b) /\ n + 1000 < dw /\
 ∀ (ps : Parts) (n' : Nat),GoodParts ps -> (∀ q ∈ ps,q.1 = "main" \/ q.1 ∈ ib) -> ps.length <= c -> (∀ q ∈ ps,q.2.length <= k) -> (∀ b ∈ di ps,b ∈ bs) -> n' <= n + 900 -> Ψ (.ow (.dic (ap ps))) (bt n')
theorem k8 : FnScope ["_law_draw","_law_count","_law_most","_law_blocks","_law_words","_law_names","_law_name"] ["_law_draw","_law_count","_law_most","_law_blocks"] (defScope (top 28)):=⟨rfl,rfl,rfl,by decide +kernel,rfl,by decide +kernel,by decide +kernel⟩
theorem aaQ (V : Env K mg base aN az aw ai) : c9 P w K mg base 5 "_law_parts" 4 [0] wc:=by
 refine eA (io:=[0]) V.d__law_parts k8 rfl (by decide) fun f cdv A outer s H E en hr => ⟨_,(aF (eP (j:=4) k8.nd rfl (by first | exact .inl rfl | exact .inr rfl) (dv (ae bR (ae bR (ae bR (ae bR (ae bR (ae bR (ae bR (ae bR ah)))))))))) (aF (eP (j:=5) k8.nd rfl (by first | exact .inl rfl | exact .inr rfl) (ev_op (fun _ _ h k => bZ gb h k) jV (dv (ae bR ah)) (sV (ev_call (fun _ => .nil) (fun _ h => aY (wa V) (hr.mono (by decide)) h) (ae (ev_var (aa 0)) (ae (ev_var (aa 4)) ah))) tm (qY (ev_call (fun _ => .nil) (fun _ h => aY (fS V) (hr.mono (by decide)) h) (ae (ev_var (aa 0)) (ae (ev_var (aa 1)) ah))))))) (aq (aZ (ev_cb (fun _ h => ke V.b_dict h) om (ae (jx [("_law_name",6)] k8.nd (eC (ev_var (aa 5))) (fun _ _ _ _ _ => (bD (j:=6) k8.nd rfl (by first | exact .inl rfl | exact .inr rfl))) (fun _ _ _ _ _ => jn) (fun _ _ _ _ _ => (eV (ae (ev_var (aa 6)) (ae (ev_call (fun _ => .nil) (fun _ h => aY (acH V) (hr.mono (by decide)) h) (ae (ev_var (aa 0)) (ae (ev_var (aa 5)) (ae (ev_var (aa 3)) (ae (ev_var (aa 2)) ah))))) ah)))) eG) ah)))))),?_⟩
 rintro σ Ψ ΨE ⟨n,c,k,bs,h0,h1,h2,h3,hc,hk,hbs,hbn,hn,q⟩
 have hmd : dw = 10 ^ 9:=rfl
 refine fo (σ1:=ac σ 4 (some (.ow (.lst (ib.map PV.str))))) (fun R hR => ?_) ?_
 . simp only [VVQ]
   exact ⟨zr (by decide),hR⟩
 refine a8 (M:=fun τ => ∃ (us : List Str) (t : Nat),us.Perm ib /\ t < c /\ τ 0 = some (.ab (drw (n + 9))) /\ τ 2 = some (.fr (.int (k : Int))) /\ τ 3 = some (.fr (.lst (bs.map PV.str))) /\ τ 5 = some (.ow (.lst ((("main" : Str) :: us.take t).map PV.str)))) ?_ fun R hR => ?_
 rotate_left
 . simp only [VVQ,h0,h1,qG]
   refine ⟨zr (by decide),n,_,rfl,rfl,yT fun y hy => jA (zW y hy),by decide,by show n + 8 < _; omega,fun ys hys => ?_⟩
   obtain ⟨us,rfl,hus⟩:=zX hys
   simp only [VVQ,bt,aW,h1,eK]
   refine ⟨_,c,rfl,rfl,⟨by omega,by omega⟩,by show n + 8 < _; omega,fun r r0 r1 => ?_⟩
   obtain ⟨t,rfl⟩:=Int.eq_ofNat_of_zero_le r0
   simp only [v9]
   have hl : us.length = 8:=hus.length_eq
   refine ⟨by rw [List.length_take,List.length_map,sizeLine_eq]; omega,hR _ ⟨us,t,hus,by omega,by simp [ac,bt,aW]; rfl,by simpa [ac] using h2,by simpa [ac] using h3,by simp [ac,List.map_take]⟩⟩
 clear h0 h1 h2 h3
 rintro τ ⟨us,t,hus,ht,e0,e2,e3,e4⟩
 have hl : us.length = 8:=hus.length_eq
 have hnl : (("main" : Str) :: us.take t).length <= c:=by
  rw [List.length_cons,List.length_take]
  omega
 have hnn : ∀ s ∈ (("main" : Str) :: us.take t),bU s:=fun s hs => by
  rcases List.mem_cons.mp hs with z | z
  . rw [z]; exact ad6
  . exact zW s (hus.subset (List.mem_of_mem_take z))
 have hnd : (("main" : Str) :: us.take t).Nodup:=List.nodup_cons.mpr ⟨fun z => vJ.2 (hus.subset (List.mem_of_mem_take z)),(hus.nodup_iff.mpr vJ.1).sublist (List.take_sublist _ _)⟩
 have hmn : ("main" : Str) ∈ (("main" : Str) :: us.take t):=List.mem_cons_self
 have hnw : ∀ s ∈ (("main" : Str) :: us.take t),s = "main" \/ s ∈ ib:=fun s hs => by
  rcases List.mem_cons.mp hs with z | z
  . exact .inl z
  . exact .inr (hus.subset (List.mem_of_mem_take z))
 generalize (("main" : Str) :: us.take t) = names at *
 have hpos : 0 < names.length:=List.length_pos_of_mem hmn
 simp only [VVQ,e4]
 refine kW (I:=fun r' acc τ => ∃ (u v : List Str) (ps : Parts) (n2 : Nat),names = u ++ v /\ r' = v.map PV.str /\ ps.map (·.1) = u /\ (∀ q ∈ ps,(1 <= q.2.length /\ q.2.length <= k) /\ (∀ x ∈ q.2,eT q.2.length names x) /\ ∀ b ∈ q.2.filterMap cO,b ∈ bs) /\ acc = ps.map (fun q => PV.tup [.str q.1,.lst (q.2.map aj)]) /\ n2 <= n + 9 + 130 * u.length /\ τ 0 = some (.ab (drw n2)) /\ τ 2 = some (.fr (.int (k : Int))) /\ τ 3 = some (.fr (.lst (bs.map PV.str))) /\ τ 5 = some (.fr (.lst (names.map PV.str)))) ?_ ?_ _ _ _ ⟨[],names,[],n + 9,rfl,rfl,rfl,(fun q hq => by cases hq),rfl,by simp,by simpa [ac] using e0,by simpa [ac] using e2,by simpa [ac] using e3,by simp [ac]⟩
 . rintro acc τ ⟨u,v,ps,n2,h,h',hk',hps,rfl,hn2,e0,e2,e3,e4⟩
   cases v with
   | cons _ _ => cases h'
   | nil =>
    rw [List.append_nil] at h
    subst h
    simp only [rK]
    rw [tK (by rw [hk']; exact hnd),iG (n:=n2) e0]
    have hpl : ps.length = names.length:=by rw [<- hk',List.length_map]
    have hbl : ∀ b ∈ di ps,b ∈ bs:=fun b hb => by
     obtain ⟨q,hq,hb⟩:=List.mem_flatMap.mp hb
     exact (hps q hq).2.2 b hb
    refine q ps n2 ⟨by rw [hk']; exact hnd,⟨by omega,by omega⟩,by rw [hk']; exact hmn,fun q hq => hnn _ (by rw [<- hk']; exact List.mem_map.mpr ⟨q,hq,rfl⟩),fun q hq => ⟨(hps q hq).1.1,by have:=(hps q hq).1.2; omega⟩,fun q hq n hn => by rw [hk']; exact (hps q hq).2.1 n hn,⟨bs,hbs.2,hbl⟩⟩ (fun q hq => hnw _ (by rw [<- hk']; exact List.mem_map.mpr ⟨q,hq,rfl⟩)) (by omega) (fun q hq => (hps q hq).1.2) hbl ?_
    have : 130 * names.length <= 130 * 6:=Nat.mul_le_mul_left _ (by omega)
    omega
 . rintro x r' acc τ ⟨u,v,ps,n2,h,h',hk',hps,rfl,hn2,e0,e2,e3,e4⟩
   cases v with
   | nil => cases h'
   | cons y v =>
    obtain ⟨rfl,rfl⟩:=List.cons.inj h'
    have hul : u.length + 1 <= names.length:=by rw [h,List.length_append,List.length_cons]; omega
    have hul2 : 130 * u.length <= 130 * 5:=Nat.mul_le_mul_left _ (by omega)
    have hpu : ps.length = u.length:=by rw [<- hk',List.length_map]
    refine ⟨_,rfl,fun R2 hR2 => ?_⟩
    simp only [VVQ,e0,e2,e3,e4,wo]
    refine ⟨n2,k,names,bs,rfl,rfl,rfl,rfl,⟨by omega,by omega⟩,⟨hpos,by omega⟩,⟨hbs.1,by omega⟩,hbn,by omega,fun nodes n3 b1 b2 b3 b4 b5 => ?_⟩
    refine ⟨zr (by decide),by rw [List.length_map,sizeLine_eq]; omega,hR2 _ _ ⟨u ++ [y],v,ps ++ [(y,nodes)],n3,by rw [h]; simp,rfl,by simp [hk'],fun q hq => ?_,by simp,by rw [List.length_append,List.length_singleton]; omega,by simp [ac,ay,bt,aW],by simpa [ac,ay] using e2,by simpa [ac,ay] using e3,by simpa [ac,ay] using e4⟩⟩
    rcases List.mem_append.mp hq with z | z
    . exact hps q z
    . rw [List.mem_singleton.mp z]
      exact ⟨⟨b1,b2⟩,b3,b4⟩
def fE (l : List Nd) (i : Nat) : Nd:=(l[i]?).getD .fin
theorem aeQ {l : List Nd} {i : Nat} (h : i < l.length) : fE l i ∈ l:=by
 unfold fE
 rw [List.getElem?_eq_getElem h]
 exact List.getElem_mem h
def jf : Nd -> List PV
 | .fin => [.str "end"]
 | .skip nx => [.str "skip",de nx]
 | .touch b nx => [.str "touch",.str b,de nx]
 | .call f nx => [.str "call",.str f,de nx]
theorem w2 (n : Nd) : aj n = .tup (jf n):=by cases n <;> rfl
theorem yi {l : List Nd} {i : Nat} (h : i < l.length) : atI (l.map aj) (i : Int) = some (aj (fE l i)):=by
 rw [atI_nat (by rw [List.length_map]; exact h),List.getElem_map]
 unfold fE
 rw [List.getElem?_eq_getElem h]
 rfl
abbrev PL:=List (Str × Nat)
def aK (p : Str × Nat) : PV:=.tup [.str p.1,.int (p.2 : Int)]
def kD (ps : Parts) (p : Str × Nat) : Prop:=∃ l,ps.lookup p.1 = some l /\ p.2 < l.length
def dR (ps : Parts) (p : Str × Nat) : Nd:=fE ((ps.lookup p.1).getD []) p.2
theorem lE {ps : Parts} {p : Str × Nat} {l : List Nd} (h : ps.lookup p.1 = some l) : dR ps p = fE l p.2:=by simp [dR,h]
def iu (ps : Parts) : PV -> Bool
 | .str n => (ps.lookup n).isSome
 | _ => false
def yk : PV -> Bool
 | .str _ => true
 | _ => false
theorem adk (p : PV) : (∃ n,p = .str n) \/ yk p = false:=by
 cases p <;> first | exact .inl ⟨_,rfl⟩ | exact .inr rfl
theorem abZ {p : PV} (h : yk p = false) : ∀ n,p ≠ .str n:=fun n e => by subst e; cases h
def xI (C CE : Addr) : SpV:=fun σ Ψ ΨE => ∃ (ps : Parts) (v : PV),σ 0 = some (.fr (aA C ps)) /\ σ 1 = some (.fr v) /\ jK v /\ (iu ps v = true -> Ψ (.fr .non) bp) /\ (iu ps v = false -> ΨE CE [("name",v)] bp)
theorem aa5 : FnScope ["program","name"] ["program","name"] (defScope (top 20)):=⟨rfl,rfl,rfl,by decide +kernel,rfl,by decide +kernel,by decide +kernel⟩
theorem acZ (V : Env K mg base aN az aw ai) : c9 P w K mg base 3 "need_procedure" 2 [] (xI ai az):=by
 refine zm (io:=[]) V.d_need_procedure aa5 rfl (by decide) fun f cdv A outer s H E en hr S0 Fr F0 XE xl => ⟨_,(aq (bq (dh (cY (bM (ck (ev_cb (fun _ h => dT V.b_isinstance h) dX (ae (ev_var (aa 1)) (ae (ev_c (dE rfl V.b_str rfl) (fun _ => .ty _)) ah))))) (dI (bv (fun _ _ h k => aT (kU hr.u65) h k) jW.v (ev_var (aa 1)) (fQ (fun _ h => eX h V.c_Program V.n_Program_parts) (ev_var (aa 0))))))) (aq (yI xl V.x_UnknownProcedure (hr.mono (by decide)) (ev_var (aa 1)))) bB)),?_⟩
 rintro σ Ψ ⟨ps,v,h0,h1,ht,q1,q2⟩
 have h0':=h0
 simp only [aA] at h0'
 rcases adk v with ⟨n,rfl⟩ | hT
 rotate_left
 . have q:=q2 (by cases v <;> first | rfl | cases hT)
   have hT':=abZ hT
   cases v <;> first | exact absurd ht Bool.false_ne_true | exact absurd rfl (hT' _) | (simp only [VVQ,cL,h1,ju,Bool.not_false,if_true,bE]; exact ⟨ty_str,q⟩)
 cases hl : ps.lookup n with
 | some l =>
  have q:=q1 (by simp [iu,hl])
  simp only [VVQ,cL,h0',h1,eM,bW,nD,hl,Bool.not_true,Bool.false_eq_true,if_false,bE]
  exact ⟨ty_str,q⟩
 | none =>
  have q:=q2 (by simp [iu,hl])
  simp only [VVQ,cL,h0',h1,eM,bW,nD,hl,Bool.not_true,Bool.not_false,Bool.false_eq_true,if_false,if_true,bE]
  exact ⟨ty_str,q⟩
def uH (C CE : Addr) : SpV:=fun σ Ψ ΨE => ∃ (ps : Parts) (v : PV),σ 0 = some (.fr (aA C ps)) /\ σ 1 = some (.fr v) /\ jK v /\ (∀ n l,v = .str n -> ps.lookup n = some l -> Ψ (.ow (.lst (l.map aj))) bp) /\ (iu ps v = false -> ΨE CE [("name",v)] bp)
theorem acC {ps : Parts} {v : PV} (h : iu ps v = true) : ∃ n l,v = .str n /\ ps.lookup n = some l:=by
 cases v <;> first | cases h | skip
 rename_i n
 obtain ⟨l,hl⟩:=Option.isSome_iff_exists.mp h
 exact ⟨n,l,rfl,hl⟩
theorem aeK : FnScope ["self","name"] ["self","name"] (defScope (inClass (top 17) 5)):=⟨rfl,rfl,rfl,by decide +kernel,rfl,by decide +kernel,by decide +kernel⟩
theorem zt (V : Env K mg base aN az aw ai) : mN P w K mg base 4 ai "nodes" 2 [] (uH ai az):=by
 refine xV (io:=[]) V.c_Program V.d_Program_nodes aeK rfl (by decide) fun f cdv A outer s H E en hr S0 Fr F0 XE xl => ⟨_,(aF (eE (yp (fun _ => .nil) (fun _ h => xT (acZ V) (hr.mono (by decide)) xl.passes h) (ae (ev_var (aa 0)) (ae (ev_var (aa 1)) ah)))) (aq (aZ (ev_cb (fun _ h => gY V.b_list h) nU (ae (ev_op (fun _ _ h k => aE hr.u9 h k (fun _ _ => rfl)) aS (fQ (fun _ h => eX h V.c_Program V.n_Program_parts) (ev_var (aa 0))) (ev_var (aa 1))) ah))))),?_⟩
 rintro σ Ψ ⟨ps,v,h0,h1,ht,q1,q2⟩
 have h0':=h0
 simp only [aA] at h0'
 simp only [VVQ,cL,h0',h1,xI,eM]
 refine ⟨ps,v,rfl,rfl,ht,fun h => ?_,fun h => by rw [bE]; exact q2 h⟩
 obtain ⟨n,l,rfl,hl⟩:=acC h
 simp only [VVQ,jk hl,bE]
 exact q1 n l rfl hl
def aM (ps : Parts) : PL:=ps.flatMap fun q => (List.range q.2.length).map fun i => (q.1,i)
def yY (C : Addr) : SpV:=fun σ Ψ _ => ∃ (ps : Parts),σ 0 = some (.fr (aA C ps)) /\ GoodParts ps /\ Ψ (.fr (.tup ((aM ps).map aK))) bp
theorem places_len {ps : Parts} (h : ∀ q ∈ ps,q.2.length <= 12) : (aM ps).length <= 12 * ps.length:=by
 induction ps with
 | nil => exact Nat.zero_le _
 | cons q ps ih =>
  have h1:=h q (by simp)
  have h2:=ih fun x hx => h x (by simp [hx])
  unfold aM at h2 ⊢
  simp only [List.flatMap_cons,List.length_append,List.length_map,List.length_range,List.length_cons]
  omega
theorem yB {ps : Parts} (hg : GoodParts ps) : ∀ p ∈ aM ps,kD ps p:=fun p hp => by
 obtain ⟨q,hq,h⟩:=List.mem_flatMap.mp hp
 obtain ⟨i,hi,rfl⟩:=List.mem_map.mp h
 exact ⟨q.2,dH hg.nd hq,List.mem_range.mp hi⟩
theorem lR : FnScope ["self","found","name","index"] ["self"] (defScope (inClass (top 17) 3)):=⟨rfl,rfl,rfl,by decide +kernel,rfl,by decide +kernel,by decide +kernel⟩
theorem vD (V : Env K mg base aN az aw ai) : pJ P w K mg base 1 ai "places" [] (yY ai):=by
 refine tq (io:=[]) V.c_Program V.d_Program_places lR (by decide) fun f cdv A outer s H E en hr => ⟨_,(aF (eP (j:=1) lR.nd rfl (by first | exact .inl rfl | exact .inr rfl) (dv ah)) (aF (tT v2 (passes_of rfl) rfl (eX (aa 0) V.c_Program V.n_Program_parts) (bD (j:=2) lR.nd rfl (by first | exact .inl rfl | exact .inr rfl)) (aq (eE (fG (i:=1) (fun _ h => wm (aa 1) h) xY (ae (jx [("index",3)] lR.nd (mH (fun _ h => lG rfl V.b_range h) (ae (ev_cb (fun _ h => cK V.b_len h) dB (ae (ev_op (fun _ _ h k => aE hr.u9 h k (fun _ _ => rfl)) aS (fQ (fun _ h => eX h V.c_Program V.n_Program_parts) (ev_var (aa 0))) (ev_var (aa 2))) ah)) ah)) (fun _ _ _ _ _ => (bD (j:=3) lR.nd rfl (by first | exact .inl rfl | exact .inr rfl))) (fun _ _ _ _ _ => jn) (fun _ _ _ _ _ => (eV (ae (ev_var (aa 2)) (ae (ev_var (aa 3)) ah)))) eG) ah))))) (aq (aZ (ev_cb (fun _ h => gA V.b_tuple h) gZ (ae (ev_var (aa 1)) ah)))))),?_⟩
 rintro σ Ψ ΨE ⟨ps,h0,hg,q⟩
 have h0':=h0
 simp only [aA] at h0'
 have hpl:=places_len fun q hq => (hg.nodes q hq).2
 have hpp:=hg.len.2
 refine fo (σ1:=ac σ 1 (some (.ow (.lst [])))) (fun R hR => ?_) ?_
 . simp only [VVQ]
   exact ⟨zr (by decide),hR⟩
 refine a8 (M:=fun τ => τ 1 = some (.ow (.lst ((aM ps).map aK)))) ?_ fun R hR => ?_
 . rintro τ e
   simp only [VVQ,e,bE,List.length_map]
   exact q
 simp only [VVQ,h0',eM]
 refine dP (I:=fun r τ => ∃ u v : Parts,ps = u ++ v /\ r = v.map (fun q => PV.str q.1) /\ τ 0 = σ 0 /\ τ 1 = some (.ow (.lst ((aM u).map aK)))) ?_ ?_ _ _ ⟨[],ps,rfl,by simp [aX,kP,Function.comp_def],rfl,rfl⟩
 . rintro τ ⟨u,v,h,h',e0,e1⟩
   cases v with
   | cons _ _ => cases h'
   | nil =>
    rw [List.append_nil] at h
    subst h
    exact hR _ e1
 . rintro x r τ ⟨u,v,h,h',e0,e1⟩
   cases v with
   | nil => cases h'
   | cons qn v =>
    obtain ⟨rfl,rfl⟩:=List.cons.inj h'
    have hlk : ps.lookup qn.1 = some qn.2:=dH hg.nd (by rw [h]; simp)
    have hql:=(hg.nodes qn (by rw [h]; simp)).2
    have hul : (aM u).length <= 12 * u.length:=places_len fun q hq => (hg.nodes q (by rw [h]; simp [hq])).2
    have hull : u.length <= 6:=by have:=congrArg List.length h; rw [List.length_append] at this; omega
    refine ⟨_,rfl,fun R2 hR2 => ?_⟩
    have e0':=e0.trans h0'
    simp only [VVQ,e0',e1,eM,jk hlk,List.length_map]
    refine ⟨⟨by omega,by omega⟩,?_⟩
    refine iw (fun _ => true) (fun x => .tup [.str qn.1,x]) (by simp [eZ]; exact zr (by omega)) (fun x hx => ?_) ?_
    . refine ⟨_,rfl,fun A B hA hB => ?_⟩
      simp only [VVQ]
      exact ⟨zr (by decide),hB rfl _ fun i hi => by
       simp only [List.mem_cons,List.not_mem_nil,or_false] at hi
       simp [ac,ay,hi]⟩
    . have e : ((eZ (qn.2.length : Int).toNat).filter fun _ => true).map (fun x => PV.tup [.str qn.1,x]) = ((List.range qn.2.length).map fun i => (qn.1,i)).map aK:=by
        rw [List.filter_eq_self.mpr fun _ _ => rfl,Int.toNat_natCast,List.map_map]
        simp [eZ,aK,Function.comp_def]
      rw [e]
      simp only [VVQ,e1,List.length_map,List.length_range]
      refine ⟨zr (by omega),hR2 _ ⟨u ++ [qn],v,by simp [h],rfl,by simpa [ac] using e0,?_⟩⟩
      simp [ac,aM]
def zA (C : Addr) : SpV:=fun σ Ψ _ => ∃ ps : Parts,σ 0 = some (.fr (aA C ps)) /\ Ψ (.fr (.tup (ps.map fun q => .str q.1))) bp
theorem aeS : FnScope ["self"] ["self"] (defScope (inClass (top 17) 2)):=⟨rfl,rfl,rfl,by decide +kernel,rfl,by decide +kernel,by decide +kernel⟩
theorem yj (V : Env K mg base aN az aw ai) : pJ P w K mg base 1 ai "names" [] (zA ai):=by
 refine tq (io:=[]) V.c_Program V.d_Program_names aeS (by decide) fun f cdv A outer s H E en hr => ⟨_,(aq (aZ (ev_cb (fun _ h => aac V.b_tuple h) aab (ae (fQ (fun _ h => eX h V.c_Program V.n_Program_parts) (ev_var (aa 0))) ah)))),?_⟩
 rintro σ Ψ ΨE ⟨ps,h0,q⟩
 simp only [aA] at h0
 simp only [VVQ,cL,h0,eM,bE]
 have e : (aX ps).map (fun kv => kP kv.1) = ps.map fun q => .str q.1:=by simp [aX,kP]
 rw [e]
 exact q
theorem aaU {n : Nat} {io : List Nat} {sp : SpV} {F G : Gp} {ts : List T} {ps : List PV} {Φ : QT} {ΦE : cW} (Ψ : Cell -> Prop) (hs : Sub F G) (r : RpL F ts ps) (hl : ps.length = n) (q : sp (Vl.ap ps) (fun c _ => Ψ c) e9)
 (k : ∀ c F' H t G',Ψ c -> Sub F F' -> Sub F' G' -> Sub G G' -> bu F' H t c -> Sub H G' -> (∀ a,H a ≠ none -> G a = none) -> Φ t G') : bV n io sp ts G Φ ΦE:=by
 have hne : ∀ a : Addr,F a ≠ none -> (if F a = none then G a else none : Option O) = none:=fun a h => by rw [if_neg h]
 refine ⟨by rw [r.length]; exact hl,fun a => if F a = none then G a else none,F,fun _ => aB,Vl.ap ps,fun c _ => Ψ c,e9,?_,q,⟨?_,fun C fs fT σ' F' own' G' h => h.elim⟩⟩
 . refine ⟨by rw [List.length_map,r.length]; exact hl,fun i hi => rfl,hs,fun a o e => ?_,hne,fun i a o e => (by cases e),fun i a e => absurd rfl e,fun i j a _ e => absurd rfl e,fun i c e => ?_,Io.ok0⟩
   . simp only at e
     split at e
     . exact e
     . cases e
   . unfold Vl.ap at e
     obtain ⟨p,hp,e⟩:=Option.map_eq_some_iff.mp e
     subst e
     obtain ⟨t,ht,h⟩:=r.get hp
     exact ⟨t,by rw [List.getElem?_map,ht]; rfl,h⟩
 . intro c σ' F' own' H t G' hc x g hcell m
   have sG : Sub G G':=fun a o e => by
    cases hF : F a with
    | none => exact g.frs a o (by show (if F a = none then G a else none) = some o; rw [if_pos hF]; exact e)
    | some u =>
     have:=hs _ _ hF
     rw [this] at e
     cases e
     exact g.sub _ _ (x.sub _ _ hF)
   refine k c F' H t G' hc x.sub g.sub sG hcell m.sub fun a ha => ?_
   obtain ⟨h1,h2⟩:=m.dF a ha
   have hF : F a = none:=by
    cases z : F a with
    | none => rfl
    | some u => rw [x.sub _ _ z] at h1; cases h1
   have h2 : (if F a = none then G a else none) = none:=h2
   rwa [if_pos hF] at h2
def qj : Nd -> List T
 | .fin => [.str "end"]
 | .skip nx => [.str "skip",.tup (nx.map fun i => T.int ((i : Nat) : Int))]
 | .touch b nx => [.str "touch",.str b,.tup (nx.map fun i => T.int ((i : Nat) : Int))]
 | .call f nx => [.str "call",.str f,.tup (nx.map fun i => T.int ((i : Nat) : Int))]
theorem pA {F : Gp} : ∀ {nx : List Nat} {ts : List T},RpL F ts (nx.map fun i => PV.int ((i : Nat) : Int)) -> ts = nx.map fun i => T.int ((i : Nat) : Int)
 | [],_,.nil => rfl
 | i :: nx,_,h => by
  have h : RpL F _ (PV.int ((i : Nat) : Int) :: nx.map fun i => PV.int ((i : Nat) : Int)):=h
  cases h with
  | cons a r => cases a; rw [pA r]; rfl
theorem afh {F : Gp} {t : T} {n : Nd} (h : Rp F t (aj n)) : t = .tup (qj n):=by
 rw [w2] at h
 cases h with
 | tup r =>
  congr 1
  cases n with
  | fin => cases r with
   | cons a r => cases a; cases r; rfl
  | skip nx => cases r with
   | cons a r => cases r with
    | cons b r => cases a; cases r; cases b with
     | tup q => rw [pA q]; rfl
  | touch x nx => cases r with
   | cons a r => cases r with
    | cons b r => cases r with
     | cons c r => cases a; cases b; cases r; cases c with
      | tup q => rw [pA q]; rfl
  | call x nx => cases r with
   | cons a r => cases r with
    | cons b r => cases r with
     | cons c r => cases a; cases b; cases r; cases c with
      | tup q => rw [pA q]; rfl
theorem pk {F : Gp} : ∀ nx : List Nat,RpL F (nx.map fun i => T.int ((i : Nat) : Int)) (nx.map fun i => PV.int ((i : Nat) : Int))
 | [] => .nil
 | i :: nx => .cons (.int _) (pk nx)
theorem acL {F : Gp} (n : Nd) : Rp F (.tup (qj n)) (aj n):=by
 rw [w2]
 cases n with
 | fin => exact .tup (.cons (.str _) .nil)
 | skip nx => exact .tup (.cons (.str _) (.cons (.tup (pk nx)) .nil))
 | touch b nx => exact .tup (.cons (.str _) (.cons (.str _) (.cons (.tup (pk nx)) .nil)))
 | call b nx => exact .tup (.cons (.str _) (.cons (.str _) (.cons (.tup (pk nx)) .nil)))
noncomputable section
def bz (n : Nd) : T:=.tup (qj n)
theorem oB {F : Gp} : ∀ l : List Nd,RpL F (l.map bz) (l.map aj)
 | [] => .nil
 | n :: l => .cons (acL n) (oB l)
def df (b : Bool) (a : Addr) (xs : List T) : T:=if b = true then .ref a else .tup xs
structure LsG (k : Str -> Bool) (ps : Parts) (ad : Str -> Addr) (d : Addr) (G : Gp) : Prop where
 dc : G d = some (.dic (ps.map fun q => (.str q.1,df (k q.1) (ad q.1) (q.2.map bz))))
 ls : ∀ q ∈ ps,k q.1 = true -> G (ad q.1) = some (.lst (q.2.map bz))
theorem LsG.up {k : Str -> Bool} {ps : Parts} {ad : Str -> Addr} {d : Addr} {G G' : Gp} (h : LsG k ps ad d G) (s : Sub G G') : LsG k ps ad d G':=⟨s _ _ h.dc,fun q hq e => s _ _ (h.ls q hq e)⟩
theorem rF {k : Str -> Bool} {ad : Str -> Addr} {F : Gp} : ∀ ps : Parts,(∀ q ∈ ps,k q.1 = true -> F (ad q.1) = some (.lst (q.2.map bz))) -> RpD F (ps.map fun q => (.str q.1,df (k q.1) (ad q.1) (q.2.map bz))) (bI k ps)
 | [],_ => .nil
 | q :: ps,h => by
  refine RpD.cons (k:=.inr q.1) ?_ (rF ps fun x hx => h x (by simp [hx]))
  unfold df jZ
  cases e : k q.1 with
  | true => exact .lst (h q (by simp) e) (oB _)
  | false => exact .tup (oB _)
theorem LsG.rp {k : Str -> Bool} {ps : Parts} {ad : Str -> Addr} {d : Addr} {G : Gp} (h : LsG k ps ad d G) : Rp G (.ref d) (.dic (bI k ps)) :=
 .dic (by unfold aG; rw [h.dc]) (rF ps h.ls)
def fD (ps : Parts) : List (T × T):=ps.map fun q => (.str q.1,.tup (q.2.map bz))
theorem rC {F : Gp} : ∀ ps : Parts,RpD F (fD ps) (aX ps)
 | [] => .nil
 | q :: ps => RpD.cons (k:=.inr q.1) (.tup (oB _)) (rC ps)
theorem oQ {k : Str -> Bool} {ad : Str -> Addr} : ∀ {ps : Parts} {n : Str} {l : List Nd},ps.lookup n = some l -> aP (ps.map fun q => (.str q.1,df (k q.1) (ad q.1) (q.2.map bz))) (.str n) = some (df (k n) (ad n) (l.map bz))
 | [],n,l,h => by cases h
 | (m,x) :: ps,n,l,h => by
  rw [List.lookup_cons] at h
  rw [List.map_cons,aP]
  by_cases e : m = n
  . subst e
    simp at h
    subst h
    simp
  . rw [show (n == m) = false from beq_eq_false_iff_ne.mpr (Ne.symm e)] at h
    rw [if_neg (by simpa using e)]
    exact oQ h
theorem adV {ps : Parts} {n : Str} {v : T} (h : n ∉ ps.map (·.1)) : dput (fD ps) (.str n) v = fD ps ++ [(.str n,v)]:=by
 unfold dput
 rw [if_neg]
 intro z
 rw [List.any_eq_true] at z
 obtain ⟨kv,h1,h2⟩:=z
 obtain ⟨q,hq,rfl⟩:=List.mem_map.mp h1
 have e : q.1 = n:=by simpa using h2
 exact h (List.mem_map.mpr ⟨q,hq,e⟩)
theorem dN {m : Nat} (h : m <= 1000) : m < sizeLine:=by rw [sizeLine_eq]; omega
def vR (C : Addr) : aI:=fun ts G Φ _ => ∃ (x d : Addr) (ps : Parts) (k : Str -> Bool) (ad : Str -> Addr),ts = [.ref x,.ref d] /\ G x = some (.ins C []) /\ LsG k ps ad d G /\ GoodParts ps /\
 ∀ (ys : List Str) (pd : Addr) (G' : Gp),ys.Perm (ps.map (·.1)) -> PyProof.Rows.sortedS ys = true -> G pd = none -> G' x = some (.ins C [("parts",.ref pd)]) -> G' pd = some (.dic (fD (aC ps ys))) -> (∀ b o,b ≠ x -> G b = some o -> G' b = some o) -> Φ .non G'
theorem aek (V : Env K mg base aN az aw ai) : ∀ f,BodyOk P w K mg base ["self","procedures","name"] "Program.__init__" (defScope (inClass (top 17) 0)) f 5 (defBody (inClass (top 17) 0)) (vR ai):=by
 refine fun f cdv A outer s H E ts G Φ ΦE hr ho hsp => ⟨_,(cX (pQ (aY (zE V) (hr.mono (by decide)) (ea_cons (aa 1) ea_nil))) (cX (yO (aa 0) (xf [("name",2)] kc.nd (gh (iS V.b_sorted (ea_cons (aa 1) ea_nil))) (fun _ _ _ _ _ => (gm (j:=2) kc.nd rfl (by first | exact .inl rfl | exact .inr rfl))) (fun _ _ _ _ _ => jr) (fun _ _ _ _ _ => (aa 2)) (fun _ _ _ _ _ => (gA V.b_tuple (ea_cons (aE hr.u9 (aa 1) (aa 2) (fun _ _ => rfl)) ea_nil)))) V.c_Program V.n_Program_parts) (ei (s_if (aT lF (cK V.b_len (ea_cons (iQ (mU V) (hr.mono (by decide)) (aa 0)) ea_nil)) (oT V.g_MOST_BLOCKS)) (ei wj) j8)))),?_⟩
 obtain ⟨x,d,ps,k,ad,rfl,hx,hd,hg,q⟩:=hsp
 show iW _ _ _ [some (.ref x),some (.ref d),none] _
 refine sq (M:=fun S' G' => S' = [some (.ref x),some (.ref d),none] /\ Sub G G') ?_ (fun R hR => ?_)
 rotate_left
 . simp only [DVQ]
   refine tH (F:=G) (ps:=[.dic (bI k ps)]) (fun c => c = .fr .non) (Sub.refl _) (.cons hd.rp .nil) rfl ⟨ps,k,rfl,hg,rfl⟩ fun c F' H t G1 hc s1 s2 s3 hcell _ _ => ?_
   exact hR _ _ _ (Sub.refl _) ⟨rfl,s3⟩
 rintro S' G1 ⟨rfl,s1⟩
 have hd1:=hd.up s1
 have hx1:=s1 _ _ hx
 have hdx : d ≠ x:=fun z => by have:=hd.dc; rw [z,hx] at this; cases this
 have hpl6 : ps.length <= 6:=hg.len.2
 refine sq (M:=fun S' G' => ∃ (t2 : Option T) (ys : List Str) (pd : Addr),S' = [some (.ref x),some (.ref d),t2] /\ ys.Perm (ps.map (·.1)) /\ PyProof.Rows.sortedS ys = true /\ G pd = none /\ G' x = some (.ins ai [("parts",.ref pd)]) /\ G' pd = some (.dic (fD (aC ps ys))) /\ ∀ b o,b ≠ x -> G b = some o -> G' b = some o) ?_ (fun R hR => ?_)
 rotate_left
 . simp only [DVQ,hx1]
   simp only [gI,hd1.dc]
   refine ⟨ps.map (·.1),by rw [List.map_map,List.map_map]; rfl,by rw [List.length_map]; omega,fun ys p hys hso hp => ?_⟩
   have g5 : gup G1 p (.lst (ys.map T.str)) p = some (.lst (ys.map T.str)):=aH
   have s2 : Sub G1 (gup G1 p (.lst (ys.map T.str))):=Sub.gup hp
   simp only [d8,aH]
   generalize gup G1 p (.lst (ys.map T.str)) = G5 at g5 s2 ⊢
   have hyl : ys.length <= 6:=by rw [hys.length_eq,List.length_map]; exact hpl6
   refine yz (I:=fun r acc G4 => ∃ done r',ys = done ++ r' /\ r = r'.map T.str /\ acc = fD (aC ps done) /\ Sub G5 G4) ?_ ?_ _ _ _ ⟨[],ys,rfl,rfl,rfl,Sub.refl _⟩
   . rintro acc G4 ⟨done,r',h1,h2,rfl,s4⟩
     rw [List.map_eq_nil_iff.mp h2.symm,List.append_nil] at h1
     refine ⟨s4 _ _ g5,fun pd hpd => ?_⟩
     have sG : Sub G G4:=s1.trans (s2.trans s4)
     have hGpd : G pd = none:=by
      cases z : G pd with
      | none => rfl
      | some o => rw [sG _ _ z] at hpd; cases hpd
     have hpx : x ≠ pd:=fun z => by rw [<- z,sG _ _ hx] at hpd; cases hpd
     simp only [ao hpx,sG _ _ hx]
     refine ⟨trivial,by decide,?_⟩
     refine hR _ _ _ (Sub.refl _) ⟨none,ys,pd,rfl,hys,hso,hGpd,by rw [aH]; rfl,by rw [ao (Ne.symm hpx),aH,h1],fun b o hb e => ?_⟩
     rw [ao hb,ao (fun z => by rw [z,hGpd] at e; cases e)]
     exact sG _ _ e
   . rintro t r acc G4 ⟨done,r',h1,h2,rfl,s4⟩
     cases r' with
     | nil => cases h2
     | cons c r' =>
     obtain ⟨rfl,rfl⟩:=List.cons.inj h2
     have hc : c ∈ ps.map (·.1):=hys.mem_iff.mp (by rw [h1]; simp)
     obtain ⟨l,hl,_⟩:=dW hc
     have hd4:=hd1.up (s2.trans s4)
     have hnd : ys.Nodup:=hys.nodup_iff.mpr hg.nd
     have hnew : c ∉ done:=fun z => by
      rw [h1,List.nodup_append] at hnd
      exact hnd.2.2 _ z c (by simp) rfl
     refine ⟨s4 _ _ g5,_,rfl,fun R2 hR2 => ?_⟩
     simp only [DVQ]
     simp only [if_true]
     refine i6 hd4.dc (oQ hl) ?_
     have fin : ∀ (b : Bool),b = k c -> iN [df b (ad c) (l.map bz)] G4 fun z G3 => (fD (aC ps done)).length < sizeLine /\ (bK (T.str c)).isSome = true /\ R2 (dput (fD (aC ps done)) (T.str c) z) G3:=fun b hb => by
      have hz : iN [df b (ad c) (l.map bz)] G4 = fun Φ => Φ (.tup (l.map bz)) G4:=by
       funext Φ
       cases b with
       | false => rfl
       | true =>
        have hq:=hd4.ls (c,l) (ew hl) hb.symm
        have hq : G4 (ad c) = some (.lst (l.map bz)):=hq
        simp only [df,if_true,iN,hq]
      rw [hz]
      have hyd : done.length + 1 <= ys.length:=by
       rw [h1,List.length_append,List.length_cons]
       omega
      refine ⟨dN (by simp only [fD,aC,List.length_map]; omega),rfl,?_⟩
      rw [adV (by rw [fh]; exact hnew)]
      refine hR2 _ _ _ (Sub.refl _) ⟨done ++ [c],r',by rw [h1]; simp,rfl,?_,s4⟩
      simp [fD,aC,hl]
     exact fin _ rfl
 rintro S' G2 ⟨t2,ys,pd,rfl,hys,hso,hpd,gx,gp,gk⟩
 have hgr:=iY hg hys
 have hpx : pd ≠ x:=fun z => by rw [z,hx] at hpd; cases hpd
 simp only [DVQ,gx]
 have hrp : Rp G2 (.ref x) (aA ai (aC ps ys)):=.ins gx (.cons (.dic (by unfold aG; rw [gp]) (rC _)) .nil)
 obtain ⟨B0,hBl,hBm⟩:=hgr.few
 refine ⟨trivial,?_⟩
 refine aaU (F:=G2) (ps:=[aA ai (aC ps ys)]) (fun c => ∃ zs : List Str,c = .fr (.tup (zs.map PV.str)) /\ (∀ y ∈ zs,y ∈ di (aC ps ys)) /\ zs.Nodup) (Sub.refl _) (.cons hrp .nil) rfl ⟨aC ps ys,_,rfl,.inl rfl,hgr.nd,by have:=hgr.len.2; omega,⟨B0,by omega,hBm⟩,fun z hz => by have:=(hgr.nodes z hz).2; omega,fun zs hzs hnd hm => ⟨zs,rfl,fun y hy => (hm y).mp hy,hnd⟩⟩ fun c F' H t G3 hc sa sb sc hcell _ _ => ?_
 obtain ⟨zs,rfl,hz1,hz2⟩:=hc
 obtain rfl : t = .tup (zs.map T.str):=by
  have hcell : Rp F' t (.tup (zs.map PV.str)):=hcell
  cases hcell with
  | tup r => rw [r.strs]
 have hzl : zs.length <= 6:=Nat.le_trans (jU hz2 fun y hy => hBm y (hz1 y hy)) hBl
 have hlt : decide ((6 : Int) < ((zs.map T.str).length : Int)) = false:=by
  rw [List.length_map]
  exact decide_eq_false (by omega)
 simp only [ee,iM,hlt]
 simp only [Bool.false_eq_true,if_false]
 exact cI.of (q ys pd G3 hys hso hpd (sc _ _ gx) (sc _ _ gp) fun b o hb e => sc _ _ (gk b o hb e))
end
theorem aei {a b : Str} (h : a.cps.toList = b.cps.toList) : a = b:=by
 cases a; cases b
 simp only [Str.mk.injEq]
 exact Array.toList_inj.mp h
abbrev il (a b : Str) : Prop:=a.cps.toList < b.cps.toList
def SS (l : List Str) : Prop:=l.Pairwise il
theorem ud (a : Str) : ¬ il a a:=List.lt_irrefl _
theorem xc {a b c : Str} (h : il a b) (k : il b c) : il a c:=List.lt_trans h k
theorem aal {a b : Str} (h : ¬ il b a) (k : a ≠ b) : il a b:=by
 have h1 : a.cps.toList <= b.cps.toList:=List.not_lt.mp h
 rcases List.le_iff_lt_or_eq.mp h1 with z | z
 . exact z
 . exact absurd (aei z) k
theorem wq : ∀ (l : List Str) (p : Str),PyProof.Rows.risingS p l = true -> (p :: l).Nodup -> SS (p :: l)
 | [],p,_,_ => List.pairwise_singleton _ _
 | x :: l,p,h,nd => by
  simp only [PyProof.Rows.risingS,Bool.and_eq_true,Bool.not_eq_true'] at h
  have ih:=wq l x h.2 (List.nodup_cons.mp nd).2
  have hx : il p x:=aal (fun z => by
   have:=h.1
   rw [PyProof.Rows.ltCps_eq,decide_eq_false_iff_not] at this
   exact this z) fun z => (List.nodup_cons.mp nd).1 (by rw [z]; exact List.mem_cons_self)
  refine List.pairwise_cons.mpr ⟨fun y hy => ?_,ih⟩
  rcases List.mem_cons.mp hy with z | z
  . rw [z]; exact hx
  . exact xc hx (List.rel_of_pairwise_cons ih z)
theorem nf {l : List Str} (h : PyProof.Rows.sortedS l = true) (nd : l.Nodup) : SS l:=by
 cases l with
 | nil => exact .nil
 | cons p l => exact wq l p h nd
theorem uY : ∀ {l m : List Str},SS l -> SS m -> (∀ y,y ∈ l ↔ y ∈ m) -> l = m
 | [],[],_,_,_ => rfl
 | [],y :: _,_,_,h => absurd ((h y).mpr List.mem_cons_self) (by simp)
 | x :: _,[],_,_,h => absurd ((h x).mp List.mem_cons_self) (by simp)
 | x :: l,y :: m,a,b,h => by
  have hxy : x = y:=by
   rcases List.mem_cons.mp ((h x).mp List.mem_cons_self) with z | z
   . exact z
   . rcases List.mem_cons.mp ((h y).mpr List.mem_cons_self) with z2 | z2
     . exact z2.symm
     . exact absurd (xc (List.rel_of_pairwise_cons a z2) (List.rel_of_pairwise_cons b z)) (ud _)
  subst hxy
  have nx : x ∉ l:=fun z => ud x (List.rel_of_pairwise_cons a z)
  have ny : x ∉ m:=fun z => ud x (List.rel_of_pairwise_cons b z)
  rw [uY (List.pairwise_cons.mp a).2 (List.pairwise_cons.mp b).2 fun y => ?_]
  constructor
  . intro z
    rcases List.mem_cons.mp ((h y).mp (List.mem_cons_of_mem _ z)) with e | e
    . exact absurd (e ▸ z) nx
    . exact e
  . intro z
    rcases List.mem_cons.mp ((h y).mpr (List.mem_cons_of_mem _ z)) with e | e
    . exact absurd (e ▸ z) ny
    . exact e
def sM : PV -> Str × Nat
 | .tup [.str n,.int i] => (n,i.toNat)
 | _ => ("",0)
theorem vW (p : Str × Nat) : sM (aK p) = p:=by simp [sM,aK]
theorem aa1 {p q : Str × Nat} (h : aK p = aK q) : p = q:=by
 have:=congrArg sM h
 rwa [vW,vW] at this
theorem adH {ps : Parts} {p : Str × Nat} (h : kD ps p) : cP ps (aK p) = true:=by
 obtain ⟨l,h1,h2⟩:=h
 simp only [aK,cP,h1,Bool.and_eq_true,decide_eq_true_eq]
 omega
theorem acA {ps : Parts} {c : Str × Nat} {n : Str} {l : List Nd} {i : Nat} (hi : i < l.length) (e : aK c = .tup [.str n,.int (i : Int)]) (hl : ps.lookup n = some l) : l[i] = dR ps c:=by
 have e2 : c = (n,i):=aa1 (q:=(n,i)) e
 rw [e2,lE (p:=(n,i)) hl]
 show _ = fE l i
 unfold fE
 rw [List.getElem?_eq_getElem hi]
 rfl
theorem adI {p : Str × Nat} : nE (aK p):=⟨rfl,fun xs e => by
 cases e
 refine ⟨by simp,fun x hx => ?_⟩
 simp only [List.mem_cons,List.not_mem_nil,or_false] at hx
 rcases hx with rfl | rfl <;> rfl⟩
theorem aby {ps : Parts} {p : Str × Nat} (h : kD ps p) : ∃ l,ps.lookup p.1 = some l /\ p.2 < l.length /\ dR ps p ∈ l:=by
 obtain ⟨l,h1,h2⟩:=h
 exact ⟨l,h1,h2,by rw [lE h1]; exact aeQ h2⟩
theorem jX {m : Nat} {names : List Str} {n : Nd} (h : eT m names n) (hn : ∀ s ∈ names,bU s) : au (aj n) = true /\ aJ (aj n) <= 10:=by
 have nx : ∀ l : List Nat,au (de l) = true /\ aJ (de l) <= 1:=fun l => by
  unfold de
  rw [au,aJ]
  refine ⟨gO.mpr fun t ht => ?_,?_⟩
  . obtain ⟨i,_,rfl⟩:=List.mem_map.mp ht
    rw [au]
  . have : cE (l.map fun i => PV.int ((i : Nat) : Int)) <= 0:=gB fun t ht => by
      obtain ⟨i,_,rfl⟩:=List.mem_map.mp ht
      simp [aJ]
    omega
 have w : PyData.strOk "end" = true /\ PyData.strOk "skip" = true /\ PyData.strOk "touch" = true /\ PyData.strOk "call" = true:=by decide +kernel
 cases n with
 | fin => exact ⟨by simp only [aj,au,cC,w.1,Bool.and_true],by simp [aj,aJ,cE]⟩
 | skip l => exact ⟨by simp only [aj,au,cC,w.2.1,(nx l).1,Bool.and_true],by have:=(nx l).2; simp only [aj,aJ,cE]; omega⟩
 | touch b l => exact ⟨by simp only [aj,au,cC,w.2.2.1,jA h.1,(nx l).1,Bool.and_true],by have:=(nx l).2; simp only [aj,aJ,cE]; omega⟩
 | call f l => exact ⟨by simp only [aj,au,cC,w.2.2.2,jA (hn _ h.1),(nx l).1,Bool.and_true],by have:=(nx l).2; simp only [aj,aJ,cE]; omega⟩
mutual
theorem tW : ∀ p : PV,bh p p = true
 | .tup xs => by rw [bh]; exact sL xs
 | .lst xs => by rw [bh]; exact sL xs
 | .non => rfl
 | .bl _ => rfl
 | .int _ => rfl
 | .str _ => rfl
 | .ty _ => rfl
 | .dic _ => rfl
 | .ins _ _ => rfl
 | .exc _ _ _ => rfl
 | .lam _ => rfl
 | .dicN _ => rfl
theorem sL : ∀ l : List PV,eQ l l = true
 | [] => rfl
 | x :: xs => by rw [eQ,tW x,sL xs]; rfl
end
theorem pE {p : PV} (h : au p = true /\ aJ p <= 10) : Cmp p p:=.inr ⟨h.1,h.1,tW p,by omega,by omega⟩
theorem sort_one {l ys zs : List Str} (hn : l.Nodup) (h1 : ys.Perm l) (s1 : PyProof.Rows.sortedS ys = true) (h2 : zs.Perm l) (s2 : PyProof.Rows.sortedS zs = true) : zs = ys :=
 uY (nf s2 (h2.nodup_iff.mpr hn)) (nf s1 (h1.nodup_iff.mpr hn)) fun y => by rw [h2.mem_iff,h1.mem_iff]
theorem yt {l : List Str} (h : ∀ s ∈ l,bU s) : au (.tup (l.map PV.str)) = true /\ aJ (.tup (l.map PV.str)) <= 10:=by
 refine ⟨?_,?_⟩
 . rw [au]
   exact gO.mpr fun t ht => by
    obtain ⟨s,hs,rfl⟩:=List.mem_map.mp ht
    exact jA (h s hs)
 . have : cE (l.map PV.str) <= 0:=gB fun t ht => by
     obtain ⟨s,_,rfl⟩:=List.mem_map.mp ht
     simp [aJ]
   simp only [aJ]
   omega
theorem abY {ps : Parts} (hg : GoodParts ps) {l : PL} (h : ∀ p ∈ l,kD ps p) : au (.tup (l.map aK)) = true /\ aJ (.tup (l.map aK)) <= 10:=by
 refine ⟨?_,?_⟩
 . rw [au]
   exact gO.mpr fun t ht => by
    obtain ⟨p,hp,rfl⟩:=List.mem_map.mp ht
    obtain ⟨l,h1,_⟩:=h p hp
    have hn : bU p.1:=hg.name _ (ew h1)
    simp only [aK,au,cC,jA hn,Bool.and_true]
 . have : cE (l.map aK) <= 2:=gB fun t ht => by
     obtain ⟨p,_,rfl⟩:=List.mem_map.mp ht
     simp [aK,aJ,cE]
   simp only [aJ]
   omega
theorem aer {m : Nat} {names : List Str} {l : List Nd} (h : ∀ n ∈ l,eT m names n) (hn : ∀ s ∈ names,bU s) : au (.lst (l.map aj)) = true /\ aJ (.lst (l.map aj)) <= 12:=by
 refine ⟨?_,?_⟩
 . rw [au]
   exact gO.mpr fun t ht => by
    obtain ⟨n,hm,rfl⟩:=List.mem_map.mp ht
    exact (jX (h n hm) hn).1
 . have : cE (l.map aj) <= 10:=gB fun t ht => by
     obtain ⟨n,hm,rfl⟩:=List.mem_map.mp ht
     exact (jX (h n hm) hn).2
   simp only [aJ]
   omega
theorem wH {p : PV} (h : au p = true /\ aJ p <= 12) : Cmp p p:=.inr ⟨h.1,h.1,tW p,by omega,by omega⟩
theorem ad1 {ps : Parts} (hg : GoodParts ps) : ∀ s ∈ ps.map (·.1),bU s:=fun s hs => by
 obtain ⟨q,hq,rfl⟩:=List.mem_map.mp hs
 exact hg.name q hq
theorem zI {x y : PV} : atI [x,y] 0 = some x:=rfl
theorem v5 {x y : PV} : atI [x,y] 1 = some y:=rfl
def pD (C : Addr) : SpV:=fun σ Ψ _ => ∃ (ps : Parts) (ys : List Str),σ 0 = some (.fr (aA C (aC ps ys))) /\ σ 1 = some (.fr (.dic (ap ps))) /\ GoodParts ps /\ ys.Perm (ps.map (·.1)) /\ PyProof.Rows.sortedS ys = true /\ Ψ (.fr (.bl true)) bp
theorem ft : FnScope ["_law_program","_law_parts_here","_law_places","_law_name","_law_index","_law_every","_law_spot","_law_blocks","_law_node","_law_told","_law_place"] ["_law_program","_law_parts_here"] (defScope (top 29)):=⟨rfl,rfl,rfl,by decide +kernel,rfl,by decide +kernel,by decide +kernel⟩
theorem qA (V : Env K mg base aN az aw ai) : c9 P w K mg base 7 "_law_looks" 2 [] (pD ai):=by
 refine eA (io:=[]) V.d__law_looks ft rfl (by decide) fun f0 cdv A0 outer s H E en hr => ⟨_,(aF (bq (dh (cY (bv (fun _ _ h k => aT (eh hr.u64) h k) fy.v (jb (fun _ h => iQ (yj V) (hr.mono (by decide)) h) (ev_var (aa 0))) (ev_cb (fun _ h => gA V.b_tuple h) gZ (ae (ev_cb (fun _ h => iS V.b_sorted h) jY (ae (ev_var (aa 1)) ah)) ah))) (dI (bM (ck (ev_cb (fun _ h => dT V.b_isinstance h) dX (ae (jb (fun _ h => iQ (yj V) (hr.mono (by decide)) h) (ev_var (aa 0))) (ae (ev_c (dE rfl V.b_tuple rfl) (fun _ => .ty _)) ah)))))))) (aq (aZ cA)) bB) (aF (eP (j:=2) ft.nd rfl (by first | exact .inl rfl | exact .inr rfl) (dv ah)) (aF (fM (passes_of rfl) rfl (eC (ev_cb (fun _ h => iS V.b_sorted h) jY (ae (ev_var (aa 1)) ah))) (bD (j:=3) ft.nd rfl (by first | exact .inl rfl | exact .inr rfl)) (aq (eE (fG (i:=2) (fun _ h => wm (aa 2) h) xY (ae (jx [("_law_index",4)] ft.nd (mH (fun _ h => lG rfl V.b_range h) (ae (ev_cb (fun _ h => cK V.b_len h) dB (ae (ev_op (fun _ _ h k => aE hr.u9 h k (fun _ _ => rfl)) aS (ev_var (aa 1)) (ev_var (aa 3))) ah)) ah)) (fun _ _ _ _ _ => (bD (j:=4) ft.nd rfl (by first | exact .inl rfl | exact .inr rfl))) (fun _ _ _ _ _ => jn) (fun _ _ _ _ _ => (eV (ae (ev_var (aa 3)) (ae (ev_var (aa 4)) ah)))) eG) ah))))) (aF (bq (dh (cY (bv (fun _ _ h k => aT (eh hr.u64) h k) fy.v (jb (fun _ h => iQ (vD V) (hr.mono (by decide)) h) (ev_var (aa 0))) (ev_cb (fun _ h => gA V.b_tuple h) gZ (ae (ev_var (aa 2)) ah))) (dI (bM (ck (ev_cb (fun _ h => dT V.b_isinstance h) dX (ae (jb (fun _ h => iQ (vD V) (hr.mono (by decide)) h) (ev_var (aa 0))) (ae (ev_c (dE rfl V.b_tuple rfl) (fun _ => .ty _)) ah)))))))) (aq (aZ cA)) bB) (aF (wN (j:=5) [("_law_spot",6)] ft.nd (eC (ev_var (aa 2))) (fun _ _ _ _ _ => (bD (j:=6) ft.nd rfl (by first | exact .inl rfl | exact .inr rfl))) (fun _ _ _ _ _ => jn) (fun _ _ _ _ _ => (ev_op (fun _ _ h k => aE hr.u9 h k (fun _ _ => rfl)) aS (ev_op (fun _ _ h k => aE hr.u9 h k (fun _ _ => rfl)) aS (ev_var (aa 1)) (ev_op (fun _ _ h k => aE hr.u9 h k (fun _ _ => rfl)) aS (ev_var (aa 6)) aD)) (ev_op (fun _ _ h k => aE hr.u9 h k (fun _ _ => rfl)) aS (ev_var (aa 6)) aD))) eG) (aF (wN (j:=7) [("_law_node",8)] ft.nd (eC (ev_var (aa 5))) (fun _ _ _ _ _ => (bD (j:=8) ft.nd rfl (by first | exact .inl rfl | exact .inr rfl))) (fun _ _ _ _ _ => (lw (bv (fun _ _ h k => aT (dA hr.u64) h k) d6.v (ev_op (fun _ _ h k => aE hr.u9 h k (fun _ _ => rfl)) aS (ev_var (aa 8)) aD) bR))) (fun _ _ _ _ _ => (ev_op (fun _ _ h k => aE hr.u9 h k (fun _ _ => rfl)) aS (ev_var (aa 8)) aD)) eG) (aF (bq (dh (cY (bv (fun _ _ h k => aT (eh hr.u64) h k) fy.v (jb (fun _ h => iQ (mU V) (hr.mono (by decide)) h) (ev_var (aa 0))) (ev_cb (fun _ h => gA V.b_tuple h) gZ (ae (ev_cb (fun _ h => abO V.b_sorted V.b_set h) ae2 (ae (ev_var (aa 7)) ah)) ah))) (dI (bM (ck (ev_cb (fun _ h => dT V.b_isinstance h) dX (ae (jb (fun _ h => iQ (mU V) (hr.mono (by decide)) h) (ev_var (aa 0))) (ae (ev_c (dE rfl V.b_tuple rfl) (fun _ => .ty _)) ah)))))))) (aq (aZ cA)) bB) (aF (tT uZ (passes_of rfl) rfl (aa 1) (bD (j:=3) ft.nd rfl (by first | exact .inl rfl | exact .inr rfl)) (aF (eP (j:=9) ft.nd rfl (by first | exact .inl rfl | exact .inr rfl) (qe (fun _ => .nil) (fun _ _ h k => s8 (zt V) (hr.mono (by decide)) h k) (ev_var (aa 0)) (ae (ev_var (aa 3)) ah))) (aF (bq (dh (cY (bv (fun _ _ h k => aT (eh hr.u64) h k) fy.v (ev_var (aa 9)) (ev_cb (fun _ h => gY V.b_list h) nU (ae (ev_op (fun _ _ h k => aE hr.u9 h k (fun _ _ => rfl)) aS (ev_var (aa 1)) (ev_var (aa 3))) ah))) (dI (bM (ck (ev_cb (fun _ h => dT V.b_isinstance h) dX (ae (ev_var (aa 9)) (ae (ev_c (dE rfl V.b_list rfl) (fun _ => .ty _)) ah)))))))) (aq (aZ cA)) bB) (aF (eE (fG (i:=9) (fun _ h => fX (aa 9) h) iF (ae (eV (ae bR ah)) ah))) (aq (bq (bv (fun _ _ h k => aT (eh hr.u64) h k) fy.v (qe (fun _ => .nil) (fun _ _ h k => s8 (zt V) (hr.mono (by decide)) h k) (ev_var (aa 0)) (ae (ev_var (aa 3)) ah)) (ev_cb (fun _ h => gY V.b_list h) nU (ae (ev_op (fun _ _ h k => aE hr.u9 h k (fun _ _ => rfl)) aS (ev_var (aa 1)) (ev_var (aa 3))) ah))) (aq (aZ cA)) bB)))))) (aF (fM (passes_of rfl) rfl (eC (ev_var (aa 2))) (bD (j:=10) ft.nd rfl (by first | exact .inl rfl | exact .inr rfl)) (aq (bq (bv (fun _ _ h k => aT (eh hr.u64) h k) fy.v (qe (fun _ => .nil) (fun _ _ h k => s8 (aeP V) (hr.mono (by decide)) h k) (ev_var (aa 0)) (ae (ev_var (aa 10)) ah)) (ev_op (fun _ _ h k => aE hr.u9 h k (fun _ _ => rfl)) aS (ev_op (fun _ _ h k => aE hr.u9 h k (fun _ _ => rfl)) aS (ev_var (aa 1)) (ev_op (fun _ _ h k => aE hr.u9 h k (fun _ _ => rfl)) aS (ev_var (aa 10)) aD)) (ev_op (fun _ _ h k => aE hr.u9 h k (fun _ _ => rfl)) aS (ev_var (aa 10)) aD))) (aq (aZ cA)) bB))) (aq (aZ cA))))))))))),?_⟩
 rintro σ Ψ ΨE ⟨ps,ys,h0,h1,hg,hys,hso,q⟩
 have hgr:=iY hg hys
 have hnm:=ad1 hg
 have hyn : ∀ s ∈ ys,bU s:=fun s hs => hnm s (hys.mem_iff.mp hs)
 have hnn : (ps.map (·.1)).Nodup:=hg.nd
 have hlk : ∀ n,(aC ps ys).lookup n = ps.lookup n:=fun n => km hg.nd hys
 have hkeys : (ap ps).map (·.1) = (ps.map (·.1)).map Sum.inr:=qX ps
 have hpl6 : ps.length <= 6:=hg.len.2
 refine fo (σ1:=σ) (fun R hR => ?_) ?_
 . simp only [VVQ,h0,h1,zA]
   refine ⟨rfl,_,rfl,ps.map (·.1),hkeys,by rw [List.length_map]; omega,fun zs hz hs => ?_⟩
   rw [sort_one hnn hys hso hz hs]
   have hmap : (aC ps ys).map (fun q => PV.str q.1) = ys.map PV.str:=by
    conv => rhs; rw [<- fh (ps:=ps) (ys:=ys)]
    rw [List.map_map]
    rfl
   rw [hmap]
   refine ⟨pE (yt hyn),?_⟩
   simp only [decide_true,Bool.not_true,Bool.false_eq_true,if_false]
   refine ⟨rfl,_,rfl,ty_tuple,?_⟩
   rw [if_neg (by simp [bW])]
   exact hR
 obtain ⟨pr,hpr⟩ : ∃ pr,pr = aC ps ys:=⟨_,rfl⟩
 have hkn : pr.map (·.1) = ys:=by rw [hpr]; exact fh
 rw [<- hpr] at h0 hgr hlk
 clear hpr
 have hpp:=hgr.len.2
 have hpl:=places_len fun q hq => (hgr.nodes q hq).2
 have hlkq : ∀ q ∈ pr,ps.lookup q.1 = some q.2:=fun q hq => by rw [<- hlk]; exact dH hgr.nd hq
 refine fo (σ1:=ac σ 2 (some (.ow (.lst [])))) (fun R hR => ?_) ?_
 . simp only [VVQ]
   exact ⟨zr (by decide),hR⟩
 refine a8 (M:=fun τ => τ 0 = some (.fr (aA ai pr)) /\ τ 1 = some (.fr (.dic (ap ps))) /\ τ 2 = some (.ow (.lst ((aM pr).map aK)))) ?_ fun R hR => ?_
 rotate_left
 . simp only [VVQ,h1]
   refine ⟨ps.map (·.1),hkeys,by rw [List.length_map]; omega,fun zs hz hs => ?_⟩
   rw [sort_one hnn hys hso hz hs]
   refine dP (I:=fun r τ => ∃ u v : Parts,pr = u ++ v /\ r = v.map (fun q => PV.str q.1) /\ τ 0 = some (.fr (aA ai pr)) /\ τ 1 = some (.fr (.dic (ap ps))) /\ τ 2 = some (.ow (.lst ((aM u).map aK)))) ?_ ?_ _ _ ⟨[],pr,rfl,by rw [<- hkn,List.map_map]; rfl,by simpa [ac] using h0,by simpa [ac] using h1,by simp [ac,aM]⟩
   . rintro τ ⟨u,v,h,h',e0,e1,e2⟩
     cases v with
     | cons _ _ => cases h'
     | nil =>
      rw [List.append_nil] at h
      subst h
      exact hR _ ⟨e0,e1,e2⟩
   . rintro x r τ ⟨u,v,h,h',e0,e1,e2⟩
     cases v with
     | nil => cases h'
     | cons qn v =>
      obtain ⟨rfl,rfl⟩:=List.cons.inj h'
      have hl1:=hlkq qn (by rw [h]; simp)
      have hql:=(hgr.nodes qn (by rw [h]; simp)).2
      have hul : (aM u).length <= 12 * u.length:=places_len fun q hq => (hgr.nodes q (by rw [h]; simp [hq])).2
      have hull : u.length <= 6:=by have:=congrArg List.length h; rw [List.length_append] at this; omega
      refine ⟨_,rfl,fun R2 hR2 => ?_⟩
      simp only [VVQ,e1,e2,fW hl1,List.length_map]
      refine ⟨⟨by omega,by omega⟩,?_⟩
      refine iw (fun _ => true) (fun x => .tup [.str qn.1,x]) (by simp [eZ]; exact zr (by omega)) (fun x hx => ?_) ?_
      . refine ⟨_,rfl,fun A B hA hB => ?_⟩
        simp only [VVQ]
        exact ⟨zr (by decide),hB rfl _ fun i hi => by
         simp only [List.mem_cons,List.not_mem_nil,or_false] at hi
         simp [ac,ay,hi]⟩
      . have e : ((eZ (qn.2.length : Int).toNat).filter fun _ => true).map (fun x => PV.tup [.str qn.1,x]) = ((List.range qn.2.length).map fun i => (qn.1,i)).map aK:=by
          rw [List.filter_eq_self.mpr fun _ _ => rfl,Int.toNat_natCast,List.map_map]
          simp [eZ,aK,Function.comp_def]
        rw [e]
        simp only [VVQ,e2,List.length_map,List.length_range]
        refine ⟨zr (by omega),hR2 _ ⟨u ++ [qn],v,by simp [h],rfl,by simpa [ac] using e0,by simpa [ac] using e1,?_⟩⟩
        simp [ac,aM]
 clear h0 h1
 rintro τ ⟨h0,h1,h2⟩
 refine a8 (M:=fun τ => τ 0 = some (.fr (aA ai pr)) /\ τ 1 = some (.fr (.dic (ap ps))) /\ (τ 2 = some (.ow (.lst ((aM pr).map aK))) \/ τ 2 = some (.fr (.lst ((aM pr).map aK))))) ?_ fun R hR => ?_
 rotate_left
 . simp only [VVQ,h0,h2,yY]
   refine ⟨rfl,pr,rfl,hgr,?_⟩
   refine ⟨pE (abY hgr (yB hgr)),?_⟩
   simp only [decide_true,Bool.not_true,Bool.false_eq_true,if_false]
   refine ⟨rfl,pr,rfl,hgr,ty_tuple,?_⟩
   rw [if_neg (by simp [bW])]
   exact hR _ ⟨h0,h1,.inl h2⟩
 clear h0 h1 h2
 rintro τ ⟨h0,h1,h2⟩
 have hpo:=yB hgr
 have hnode : ∀ p,kD pr p -> ∃ (l : List Nd),p.2 < l.length /\ ps.lookup p.1 = some l /\ dR pr p = fE l p.2:=fun p hp => by
  obtain ⟨l,h1,h2⟩:=hp
  exact ⟨l,h2,by rw [<- hlk]; exact h1,lE h1⟩
 refine a8 (M:=fun τ => τ 0 = some (.fr (aA ai pr)) /\ τ 1 = some (.fr (.dic (ap ps))) /\ (∃ c,τ 2 = some c /\ (c = .ow (.lst ((aM pr).map aK)) \/ c = .fr (.lst ((aM pr).map aK)))) /\ τ 5 = some (.ow (.lst ((aM pr).map fun p => aj (dR pr p))))) ?_ fun R hR => ?_
 rotate_left
 . rcases h2 with h2 | h2
   all_goals
    simp only [VVQ,h1,h2]
    refine kW (I:=fun r acc τ' => ∃ u w,aM pr = u ++ w /\ r = w.map aK /\ acc = u.map (fun p => aj (dR pr p)) /\ τ' 0 = some (.fr (aA ai pr)) /\ τ' 1 = some (.fr (.dic (ap ps))) /\ ∃ c,τ' 2 = some c /\ (c = .ow (.lst ((aM pr).map aK)) \/ c = .fr (.lst ((aM pr).map aK)))) ?_ ?_ _ _ _ ⟨[],aM pr,rfl,rfl,rfl,by simpa [ac,ay] using h0,by simpa [ac,ay] using h1,_,by simp [ac,ay,h2]; rfl,by simp⟩
    . rintro acc τ' ⟨u,w,k1,k2,rfl,t0,t1,t2⟩
      rw [List.map_eq_nil_iff.mp k2.symm,List.append_nil] at k1
      exact hR _ ⟨by simpa [ac] using t0,by simpa [ac] using t1,by simpa [ac] using t2,by rw [k1]; simp [ac]⟩
    . rintro x r acc τ' ⟨u,w,k1,k2,rfl,t0,t1,t2⟩
      cases w with
      | nil => cases k2
      | cons p w =>
      obtain ⟨rfl,rfl⟩:=List.cons.inj k2
      refine ⟨_,rfl,fun R4 hR4 => ?_⟩
      have hl2 : (aM pr).length = u.length + (w.length + 1):=by rw [k1]; simp
      obtain ⟨l,hi,e1,e2⟩:=hnode p (hpo p (by rw [k1]; simp))
      simp only [VVQ,t1,aK,zI,v5,fW e1,yi hi]
      refine ⟨zr (by rw [List.length_map]; omega),hR4 _ _ ⟨u ++ [p],w,by rw [k1]; simp,rfl,?_,by simpa [ac,ay] using t0,by simpa [ac,ay] using t1,by simpa [ac,ay] using t2⟩⟩
      rw [List.map_append,List.map_singleton,e2]
 clear h0 h1 h2
 rintro τ ⟨h0,h1,h2,h3⟩
 refine a8 (M:=fun τ => τ 0 = some (.fr (aA ai pr)) /\ τ 1 = some (.fr (.dic (ap ps))) /\ (∃ c,τ 2 = some c /\ (c = .ow (.lst ((aM pr).map aK)) \/ c = .fr (.lst ((aM pr).map aK)))) /\ τ 7 = some (.ow (.lst (((aM pr).filterMap fun p => cO (dR pr p)).map PV.str)))) ?_ fun R hR => ?_
 rotate_left
 . simp only [VVQ,h3]
   refine kW (I:=fun r acc τ' => ∃ u w,aM pr = u ++ w /\ r = w.map (fun p => aj (dR pr p)) /\ acc = (u.filterMap fun p => cO (dR pr p)).map PV.str /\ τ' 0 = some (.fr (aA ai pr)) /\ τ' 1 = some (.fr (.dic (ap ps))) /\ ∃ c,τ' 2 = some c /\ (c = .ow (.lst ((aM pr).map aK)) \/ c = .fr (.lst ((aM pr).map aK)))) ?_ ?_ _ _ _ ⟨[],aM pr,rfl,rfl,rfl,by simpa [ac,ay] using h0,by simpa [ac,ay] using h1,by simpa [ac,ay] using h2⟩
   . rintro acc τ' ⟨u,w,k1,k2,rfl,t0,t1,t2⟩
     rw [List.map_eq_nil_iff.mp k2.symm,List.append_nil] at k1
     exact hR _ ⟨by simpa [ac] using t0,by simpa [ac] using t1,by simpa [ac] using t2,by rw [k1]; simp [ac]⟩
   . rintro x r acc τ' ⟨u,w,k1,k2,rfl,t0,t1,t2⟩
     cases w with
     | nil => cases k2
     | cons p w =>
     obtain ⟨rfl,rfl⟩:=List.cons.inj k2
     refine ⟨_,rfl,fun R4 hR4 => ?_⟩
     have hl2 : (aM pr).length = u.length + (w.length + 1):=by rw [k1]; simp
     have hul : (u.filterMap fun p => cO (dR pr p)).length <= u.length:=List.length_filterMap_le _ _
     have stay : ∀ (acc : List PV) (τ2 : SV),acc = ((u ++ [p]).filterMap fun p => cO (dR pr p)).map PV.str -> τ2 0 = τ' 0 -> τ2 1 = τ' 1 -> τ2 2 = τ' 2 -> R4 acc τ2:=fun acc τ2 a b c d => hR4 _ _ ⟨u ++ [p],w,by rw [k1]; simp,rfl,a,by simpa [ay,ac] using b.trans t0,by simpa [ay,ac] using c.trans t1,by obtain ⟨z,z1,z2⟩:=t2; exact ⟨z,by simpa [ay,ac] using d.trans z1,z2⟩⟩
     cases hn : dR pr p with
     | touch b nx =>
      simp only [VVQ,hn,aj,dY,fN]
      refine ⟨.inl rfl,?_⟩
      rw [if_pos (by simp)]
      exact ⟨zr (by rw [List.length_map]; omega),stay _ _ (by simp [List.filterMap_append,hn,cO]) (by simp [ac]) (by simp [ac]) (by simp [ac])⟩
     | _ =>
      simp only [VVQ,hn,aj,dY,PV.str.injEq]
      refine ⟨.inl rfl,?_⟩
      rw [if_neg (by decide)]
      exact stay _ _ (by simp [List.filterMap_append,hn,cO]) (by simp [ac]) (by simp [ac]) (by simp [ac])
 clear h0 h1 h2 h3
 rintro τ ⟨h0,h1,h2,h3⟩
 obtain ⟨B0,hBl,hBm⟩:=hgr.few
 have jJ : ∀ y,y ∈ ((aM pr).filterMap fun p => cO (dR pr p)) ↔ y ∈ di pr:=fun y => by
  rw [List.mem_filterMap]
  constructor
  . rintro ⟨p,hp,e⟩
    obtain ⟨l,h1,h2⟩:=hpo p hp
    refine List.mem_flatMap.mpr ⟨(p.1,l),ew h1,List.mem_filterMap.mpr ⟨l[p.2],List.getElem_mem h2,?_⟩⟩
    rw [<- e,lE h1]
    unfold fE
    rw [List.getElem?_eq_getElem h2]
    rfl
  . intro h
    obtain ⟨q,hq,h⟩:=List.mem_flatMap.mp h
    obtain ⟨x,hx,e⟩:=List.mem_filterMap.mp h
    obtain ⟨i,hi,rfl⟩:=List.getElem_of_mem hx
    refine ⟨(q.1,i),List.mem_flatMap.mpr ⟨q,hq,List.mem_map.mpr ⟨i,List.mem_range.mpr hi,rfl⟩⟩,?_⟩
    rw [lE (p:=(q.1,i)) (dH hgr.nd hq),<- e]
    unfold fE
    rw [List.getElem?_eq_getElem hi]
    rfl
 have hbn : ∀ s ∈ di pr,bU s:=fun s hs => by
  obtain ⟨q,hq,h⟩:=List.mem_flatMap.mp hs
  obtain ⟨x,hx,e⟩:=List.mem_filterMap.mp h
  have:=hgr.ok q hq x hx
  cases x with
  | touch b nx => cases e; exact this.1
  | _ => cases e
 have hfl : ((aM pr).filterMap fun p => cO (dR pr p)).length <= (aM pr).length:=List.length_filterMap_le _ _
 refine a8 (M:=fun τ => τ 0 = some (.fr (aA ai pr)) /\ τ 1 = some (.fr (.dic (ap ps))) /\ (∃ c,τ 2 = some c /\ (c = .ow (.lst ((aM pr).map aK)) \/ c = .fr (.lst ((aM pr).map aK))))) ?_ fun R hR => ?_
 rotate_left
 . simp only [VVQ,h0,h3,tS]
   have nl : ∀ z ∈ pr,z.2.length <= 1000:=fun z hz => by have:=(hgr.nodes z hz).2; omega
   refine ⟨rfl,pr,_,rfl,.inl rfl,hgr.nd,by omega,⟨B0,by omega,hBm⟩,nl,fun zs hzs hnd hm => ⟨_,rfl,by omega,fun ws hws hnw hmw hlw => ?_⟩⟩
   have e : ws = zs:=uY (nf hws hnw) (nf hzs hnd) fun y => by rw [hmw,jJ,hm]
   subst e
   refine ⟨pE (yt fun s hs => hbn s ((hm s).mp hs)),?_⟩
   simp only [decide_true,Bool.not_true,Bool.false_eq_true,if_false]
   refine ⟨rfl,pr,_,rfl,.inl rfl,hgr.nd,by omega,⟨B0,by omega,hBm⟩,nl,fun dN _ _ _ => ⟨ty_tuple,?_⟩⟩
   rw [if_neg (by simp [bW])]
   exact hR _ ⟨by simp [ac],by simpa [ac] using h1,by simpa [ac] using h2⟩
 clear h0 h1 h2 h3
 rintro τ ⟨h0,h1,h2⟩
 refine a8 (M:=fun τ => τ 0 = some (.fr (aA ai pr)) /\ τ 1 = some (.fr (.dic (ap ps))) /\ (∃ c,τ 2 = some c /\ (c = .ow (.lst ((aM pr).map aK)) \/ c = .fr (.lst ((aM pr).map aK))))) ?_ fun R hR => ?_
 rotate_left
 . simp only [VVQ,h1]
   rw [show (ap ps).map (fun kv => kP kv.1) = (ps.map (·.1)).map PV.str from by simp [ap,kP,Function.comp_def]]
   refine dP (I:=fun r τ => (∃ r' : List Str,r = r'.map PV.str /\ ∀ n ∈ r',n ∈ ps.map (·.1)) /\ τ 0 = some (.fr (aA ai pr)) /\ τ 1 = some (.fr (.dic (ap ps))) /\ (∃ c,τ 2 = some c /\ (c = .ow (.lst ((aM pr).map aK)) \/ c = .fr (.lst ((aM pr).map aK))))) ?_ ?_ _ _ ⟨⟨ps.map (·.1),rfl,fun _ h => h⟩,by simpa [ac] using h0,by simp [ac,h1],by simpa [ac] using h2⟩
   . rintro τ ⟨_,t0,t1,t2⟩
     exact hR _ ⟨t0,t1,t2⟩
   clear h0 h1 h2
   rintro x r τ ⟨⟨r',k1,k2⟩,h0,h1,h2⟩
   cases r' with
   | nil => cases k1
   | cons n r' =>
   obtain ⟨rfl,rfl⟩:=List.cons.inj k1
   have hnm2:=k2 n (by simp)
   obtain ⟨l,hl,hlm⟩:=dW hnm2
   have hlr : pr.lookup n = some l:=by rw [hlk]; exact hl
   have hok:=aer (hg.ok _ hlm) hnm
   have hll : l.length <= 12:=(hg.nodes _ hlm).2
   refine ⟨_,rfl,fun R2 hR2 => ?_⟩
   have hpb : iu pr (.str n) = true:=by simp [iu,hlr]
   refine a8 (M:=fun τ' => τ' 9 = some (.ow (.lst (l.map aj))) /\ τ' 3 = some (.fr (.str n)) /\ τ' 0 = some (.fr (aA ai pr)) /\ τ' 1 = some (.fr (.dic (ap ps))) /\ (∃ c,τ' 2 = some c /\ (c = .ow (.lst ((aM pr).map aK)) \/ c = .fr (.lst ((aM pr).map aK))))) ?_ fun R3 hR3 => ?_
   rotate_left
   . simp only [VVQ,h0,uH]
     refine ⟨⟨rfl,rfl⟩,pr,.str n,rfl,rfl,rfl,fun n2 l2 e hl2 => ?_,fun h => by rw [hpb] at h; cases h⟩
     cases e
     rw [hlr] at hl2
     cases hl2
     exact hR3 _ ⟨by simp [ac],by simp [ac],by simpa [ac] using h0,by simpa [ac] using h1,by simpa [ac] using h2⟩
   clear h0 h1 h2
   rintro τ' ⟨h3,h4,h0,h1,h2⟩
   refine a8 (M:=fun τ' => τ' 9 = some (.ow (.lst (l.map aj))) /\ τ' 3 = some (.fr (.str n)) /\ τ' 0 = some (.fr (aA ai pr)) /\ τ' 1 = some (.fr (.dic (ap ps))) /\ (∃ c,τ' 2 = some c /\ (c = .ow (.lst ((aM pr).map aK)) \/ c = .fr (.lst ((aM pr).map aK))))) ?_ fun R3 hR3 => ?_
   rotate_left
   . simp only [VVQ,h3,h4,h1,fW hl]
     refine ⟨wH hok,?_⟩
     simp only [decide_true,Bool.not_true,Bool.false_eq_true,if_false]
     refine ⟨by decide,?_⟩
     rw [if_neg (by simp [bW])]
     exact hR3 _ ⟨h3,h4,h0,h1,h2⟩
   clear h0 h1 h2 h3 h4
   rintro τ' ⟨h3,h4,h0,h1,h2⟩
   refine a8 (M:=fun τ' => τ' 3 = some (.fr (.str n)) /\ τ' 0 = some (.fr (aA ai pr)) /\ τ' 1 = some (.fr (.dic (ap ps))) /\ (∃ c,τ' 2 = some c /\ (c = .ow (.lst ((aM pr).map aK)) \/ c = .fr (.lst ((aM pr).map aK))))) ?_ fun R3 hR3 => ?_
   rotate_left
   . simp only [VVQ,h3]
     exact ⟨zr (by decide),zr (by rw [List.length_map]; omega),hR3 _ ⟨by simpa [ac] using h4,by simpa [ac] using h0,by simpa [ac] using h1,by simpa [ac] using h2⟩⟩
   clear h0 h1 h2 h3 h4
   rintro τ' ⟨h4,h0,h1,h2⟩
   simp only [VVQ,h0,h1,h4,fW hl,uH]
   refine ⟨⟨rfl,rfl⟩,pr,.str n,rfl,rfl,rfl,fun n2 l2 e hl2 => ?_,fun h => by rw [hpb] at h; cases h⟩
   cases e
   rw [hlr] at hl2
   cases hl2
   refine ⟨wH hok,?_⟩
   simp only [decide_true,Bool.not_true,Bool.false_eq_true,if_false]
   exact hR2 _ ⟨⟨r',rfl,fun n hn => k2 n (by simp [hn])⟩,h0,h1,h2⟩
 clear h0 h1 h2
 rintro τ ⟨h0,h1,h2⟩
 refine a8 (M:=fun _ => True) ?_ fun R hR => ?_
 . intro τ _
   simp only [VVQ,bE]
   exact q
 obtain ⟨c,hc,hc2⟩:=h2
 rcases hc2 with rfl | rfl
 all_goals
  simp only [VVQ,hc]
  refine dP (I:=fun r τ => (∃ r' : PL,r = r'.map aK /\ ∀ p ∈ r',kD pr p) /\ τ 0 = some (.fr (aA ai pr)) /\ τ 1 = some (.fr (.dic (ap ps)))) ?_ ?_ _ _ ⟨⟨aM pr,rfl,hpo⟩,by simpa [ac] using h0,by simpa [ac] using h1⟩
  . exact fun τ _ => hR _ trivial
  . rintro x r τ' ⟨⟨r',k1,k2⟩,t0,t1⟩
    cases r' with
    | nil => cases k1
    | cons p r' =>
    obtain ⟨rfl,rfl⟩:=List.cons.inj k1
    have hp:=k2 p (by simp)
    obtain ⟨l,hi,e1,e2⟩:=hnode p hp
    obtain ⟨l2,h4,_,h6⟩:=aby hp
    have hok:=jX ((hgr.ok _ (ew h4)) _ h6) (fun s hs => hnm s (hys.mem_iff.mp (by rw [<- hkn]; exact hs)))
    refine ⟨_,rfl,fun R2 hR2 => ?_⟩
    simp only [VVQ,t0,t1,zO]
    refine ⟨⟨rfl,rfl⟩,pr,aK p,rfl,rfl,adI,fun nm l3 jj hj e hl3 => ?_,fun hb => by rw [adH hp] at hb; cases hb⟩
    rw [acA hj e hl3]
    simp only [VVQ,t1,aK,zI,v5,fW e1,yi hi]
    rw [<- e2]
    refine ⟨pE hok,?_⟩
    simp only [decide_true,Bool.not_true,Bool.false_eq_true,if_false]
    exact hR2 _ ⟨⟨r',rfl,fun p hp => k2 p (by simp [hp])⟩,by simpa [ac] using t0,by simpa [ac] using t1⟩
noncomputable section
theorem sY {F : Gp} : ∀ {ts : List T} {l : List Nd},RpL F ts (l.map aj) -> ts = l.map bz
 | _,[],.nil => rfl
 | _,n :: l,.cons h r => by rw [sY r,afh h]; rfl
structure NewL (G G' : Gp) (ps : Parts) (ad : Str -> Addr) : Prop where
 ls : ∀ q ∈ ps,G' (ad q.1) = some (.lst (q.2.map bz))
 new : ∀ n ∈ ps.map (·.1),G (ad n) = none
 inj : ∀ n ∈ ps.map (·.1),∀ m ∈ ps.map (·.1),ad n = ad m -> n = m
 sub : Sub G G'
theorem vO {Keep : Gp -> Prop} {f : T -> S2 -> Option S2} {vs : List Nat} {tt : LT} {te : LE} {Fin : List T -> Gp -> Prop} {S : S2} {G : Gp} {ps : Parts} (hn : (ps.map (·.1)).Nodup) (hl : ps.length <= 6) (hK : ∀ G',Sub G G' -> Keep G')
 (h : ∀ n l,ps.lookup n = some l -> ∃ S2,f (.str n) (bY S vs) = some S2 /\ ∀ G' (R : QT) (R' : Gp -> Prop),Sub G G' -> (∀ p,G' p = none -> R (.tup [.str n,.ref p]) (gup G' p (.lst (l.map bz)))) -> tt S2 G' fun b G1 => if b = true then te S2 G1 R else R' G1)
 (fin : ∀ ad G',NewL G G' ps ad -> Fin (ps.map fun q => .tup [.str q.1,.ref (ad q.1)]) G') : fj Keep f vs tt te Fin S (ps.map fun q => .str q.1) [] G:=by
 refine uq (I:=fun r acc G' => ∃ done rest ad,ps = done ++ rest /\ r = rest.map (fun q => T.str q.1) /\ acc = done.map (fun q => T.tup [.str q.1,.ref (ad q.1)]) /\ NewL G G' done ad) ?_ ?_ _ _ _ ⟨[],ps,fun _ => default,rfl,rfl,rfl,⟨fun q hq => (by cases hq),fun q hq => (by cases hq),fun q hq => (by cases hq),Sub.refl _⟩⟩
 . rintro acc G' ⟨done,rest,ad,h1,h2,rfl,nl⟩
   rw [List.map_eq_nil_iff.mp h2.symm,List.append_nil] at h1
   subst h1
   exact ⟨hK _ nl.sub,fin ad G' nl⟩
 . rintro t r acc G' ⟨done,rest,ad,h1,h2,rfl,nl⟩
   cases rest with
   | nil => cases h2
   | cons q rest =>
   obtain ⟨rfl,rfl⟩:=List.cons.inj h2
   obtain ⟨n,l⟩:=q
   have hq : (n,l) ∈ ps:=by rw [h1]; simp
   have hnew : n ∉ done.map (·.1):=fun z => by
    rw [h1,List.map_append,List.nodup_append] at hn
    exact hn.2.2 _ z n (by simp) rfl
   have hdl : done.length < 6:=by have:=congrArg List.length h1; rw [List.length_append,List.length_cons] at this; omega
   obtain ⟨S2,e1,e2⟩:=h n l (dH hn hq)
   refine ⟨hK _ nl.sub,S2,e1,fun R hR => e2 G' _ _ nl.sub fun p hp => ⟨dN (by rw [List.length_map]; omega),?_⟩⟩
   have hGp : G p = none:=by
    cases z : G p with
    | none => rfl
    | some o => rw [nl.sub _ _ z] at hp; cases hp
   have hadp : ∀ m ∈ done.map (·.1),ad m ≠ p:=fun m hm z => by
    obtain ⟨q,hq,rfl⟩:=List.mem_map.mp hm
    have:=nl.ls q hq
    rw [z,hp] at this
    cases this
   have hne : ∀ m ∈ done.map (·.1),m ≠ n:=fun m hm z => hnew (z ▸ hm)
   refine hR _ _ _ (Sub.refl _) ⟨done ++ [(n,l)],rest,fun m => if m = n then p else ad m,by rw [h1]; simp,rfl,?_,⟨fun q hq => ?_,fun m hm => ?_,fun m hm k hk e => ?_,nl.sub.trans (Sub.gup hp)⟩⟩
   . rw [List.map_append]
     congr 1
     . refine List.map_congr_left fun q hq => ?_
       show _ = T.tup [T.str q.1,T.ref (if q.1 = n then p else ad q.1)]
       rw [if_neg (hne _ (List.mem_map_of_mem hq))]
     . simp
   . rcases List.mem_append.mp hq with z | z
     . have:=hne _ (List.mem_map_of_mem (f:=(·.1)) z)
       simp only [if_neg this]
       rw [ao (hadp _ (List.mem_map_of_mem (f:=(·.1)) z))]
       exact nl.ls q z
     . rw [List.mem_singleton.mp z]
       simp only [if_true]
       exact aH
   . show G (if m = n then p else ad m) = none
     split
     . exact hGp
     . rename_i z
       rw [List.map_append] at hm
       rcases List.mem_append.mp hm with y | y
       . exact nl.new m y
       . exact absurd (by simpa using y) z
   . rw [List.map_append] at hm hk
     have mk : ∀ {x : Str},x ∈ done.map (·.1) ++ [(n,l)].map (·.1) -> x ≠ n -> x ∈ done.map (·.1):=fun hx z => by
      rcases List.mem_append.mp hx with y | y
      . exact y
      . exact absurd (by simpa using y) z
     have e : (if m = n then p else ad m) = if k = n then p else ad k:=e
     by_cases z1 : m = n
     . by_cases z2 : k = n
       . rw [z1,z2]
       . rw [if_pos z1,if_neg z2] at e
         exact absurd e.symm (hadp k (mk hk z2))
     . by_cases z2 : k = n
       . rw [if_neg z1,if_pos z2] at e
         exact absurd e (hadp m (mk hm z1))
       . rw [if_neg z1,if_neg z2] at e
         exact nl.inj m (mk hm z1) k (mk hk z2) e
theorem zD {ad : Str -> Addr} : ∀ ps : Parts,gr (ps.map fun q => .tup [.str q.1,.ref (ad q.1)]) = some (ps.map fun q => (T.str q.1,T.ref (ad q.1)))
 | [] => rfl
 | q :: ps => by
  have:=zD (ad:=ad) ps
  simp only [List.map_cons,gr,bK,this]
theorem yf : ∀ {xs acc : List (T × T)},((acc ++ xs).map (·.1)).Nodup -> jE acc xs = acc ++ xs
 | [],acc,_ => by rw [List.append_nil]; rfl
 | kv :: xs,acc,h => by
  have e : dput acc kv.1 kv.2 = acc ++ [kv]:=by
   unfold dput
   rw [if_neg]
   intro z
   rw [List.any_eq_true] at z
   obtain ⟨x,h1,h2⟩:=z
   rw [List.map_append,List.nodup_append] at h
   exact h.2.2 x.1 (List.mem_map_of_mem h1) kv.1 (by simp) (by simpa using h2)
  show jE (dput acc kv.1 kv.2) xs = _
  rw [e,yf (by simpa using h)]
  simp
theorem ae8 {ad : Str -> Addr} {ps : Parts} (hn : (ps.map (·.1)).Nodup) : jE [] (ps.map fun q => (T.str q.1,T.ref (ad q.1))) = ps.map fun q => (T.str q.1,T.ref (ad q.1)):=by
 refine (yf ?_).trans (List.nil_append _)
 rw [List.nil_append,List.map_map]
 have h : (ps.map (·.1)).map T.str = ps.map fun q => T.str q.1:=by rw [List.map_map]; rfl
 exact (show (ps.map fun q => T.str q.1).Nodup from h ▸ List.Pairwise.map T.str (fun a b h e => h (by injection e)) hn)
theorem abL {G : Gp} {a : Addr} {kvs : List (T × T)} {u t : T} {Φ : QT} (h : aG G a = some kvs) (hl : aP kvs u = some t) (q : Φ t G) (hk : (bK u).isSome = true:=by rfl) : cg (.ref a) u G Φ:=by
 obtain ⟨k,e⟩:=Option.isSome_iff_exists.mp hk
 unfold aG at h
 split at h
 . rename_i e1; cases h; simp only [cg,e1,e,hl]; exact q
 . rename_i e1; cases h; simp only [cg,e1,e,hl]; exact q
 . cases h
theorem aa6 {F : Gp} {ts : List (T × T)} {ps : Parts} (r : RpD F ts (ap ps)) {n : Str} {l : List Nd} (h : ps.lookup n = some l) : ∃ b,aP ts (.str n) = some (.ref b) /\ F b = some (.lst (l.map bz)):=by
 rcases r.look (k:=.inr n) with ⟨_,h2⟩ | ⟨t,p,h1,h2,h3⟩
 . rw [fW h] at h2; cases h2
 . rw [fW h] at h2
   cases h2
   cases h3 with
   | lst hb hr => rw [sY hr] at hb; exact ⟨_,h1,hb⟩
theorem aeL {F : Gp} {ts : List (T × T)} {ps : Parts} (r : RpD F ts (ap ps)) : ts.map (·.1) = ps.map fun q => T.str q.1:=by
 rw [r.keys,ap,List.map_map]
 rfl
def rM (i j : Nat) : LE:=mG (dD (cr j) (dD (cq jm (dD (ed cg (cr i) (cr j)) fe)) fe))
def pN (i j : Nat) : LE:=fH (fB (cr i)) (gN j) [j] kQ (rM i j)
theorem zU {i j : Nat} {S : S2} {G F : Gp} {a : Addr} {ts : List (T × T)} {ps : Parts} (hi : S[i]? = some (some (.ref a))) (hij : i ≠ j) (hj : j < S.length) (hd : ∀ G',Sub G G' -> aG G' a = some ts) (r : RpD F ts (ap ps)) (hF : ∀ b xs,F b = some (.lst xs) -> G b = some (.lst xs)) :
 ∀ n l,ps.lookup n = some l -> ∃ S2,gN j (.str n) (bY S [j]) = some S2 /\ ∀ G' (R : QT) (R' : Gp -> Prop),Sub G G' -> (∀ p,G' p = none -> R (.tup [.str n,.ref p]) (gup G' p (.lst (l.map bz)))) -> kQ S2 G' fun b G1 => if b = true then rM i j S2 G1 R else R' G1:=by
 intro n l h
 obtain ⟨b,h1,h2⟩:=aa6 r h
 refine ⟨_,rfl,fun G' R R' sb q => ?_⟩
 have e1 : ((bY S [j]).set j (some (.str n)))[i]? = some (some (.ref a)):=by
  rw [List.getElem?_set_ne (Ne.symm hij)]
  show (S.set j none)[i]? = _
  rw [List.getElem?_set_ne (Ne.symm hij)]
  exact hi
 have e2 : ((bY S [j]).set j (some (.str n)))[j]? = some (some (.str n)):=List.getElem?_set_self (by show j < (S.set j none).length; rw [List.length_set]; exact hj)
 simp only [kQ,if_true,rM,mG,dD,cr,ef e1,ef e2,cq,ed,fe]
 refine abL (hd _ sb) h1 ?_
 simp only [jm,sb _ _ (hF _ _ h2)]
 exact fun p hp => ⟨Nat.le_of_lt (dN (m:=2) (by decide)),q p hp⟩
theorem vU {i j : Nat} {S : S2} {G F : Gp} {a : Addr} {ts : List (T × T)} {ps : Parts} {Φ : QT} (hi : S[i]? = some (some (.ref a))) (hij : i ≠ j) (hj : j < S.length) (hd : aG G a = some ts) (r : RpD F ts (ap ps)) (hF : Sub F G) (hg : GoodParts ps)
 (fin : ∀ D ad G',NewL G G' ps ad -> G' D = some (.dic (ps.map fun q => (.str q.1,.ref (ad q.1)))) -> G D = none -> Φ (.ref D) G') :
    mO (pN i j) S G (fun t G1 => fF [t] G1 Φ) \/ pN i j S G (fun t G1 => fF [t] G1 Φ):=by
 have dct : ∀ {ad : Str -> Addr} {G' : Gp} {p : Addr},NewL G G' ps ad -> G' p = some (.lst (ps.map fun q => .tup [.str q.1,.ref (ad q.1)])) -> fF [.ref p] G' Φ:=fun {ad G' p} nl hp => by
  simp only [fF,hp,zD,ae8 hg.nd]
  intro D hD
  refine fin D ad _ ⟨fun q hq => ?_,nl.new,nl.inj,nl.sub.trans (Sub.gup hD)⟩ aH ?_
  . rw [ao (fun z => by have:=nl.ls q hq; rw [z,hD] at this; cases this)]
    exact nl.ls q hq
  . cases z : G D with
    | none => rfl
    | some o => rw [nl.sub _ _ z] at hD; cases hD
 have hk : ts.map (·.1) = ps.map fun q => T.str q.1:=aeL r
 have hl6:=hg.len.2
 unfold aG at hd
 split at hd
 . rename_i kvs e
   cases hd
   left
   refine ⟨a,?_⟩
   simp only [e]
   intro ob raw
   have gd : gup G a (.fdic ob raw ts) a = some (.fdic ob raw ts):=aH
   have up : ∀ {G'},Sub (gup G a (.fdic ob raw ts)) G' -> aG G' a = some ts:=fun {G'} sb => by unfold aG; rw [sb _ _ gd]
   simp only [pN,fH,fB,cr,ef hi]
   refine x8 gd ?_
   rw [hk]
   refine vO hg.nd hl6 (fun G' sb => sb _ _ gd) (zU hi hij hj (fun G' sb => up sb) r fun b xs hb => ?_) fun ad G' nl p hp => ?_
   . rw [ao (fun z => by rw [z] at hb; rw [hF _ _ hb] at e; cases e)]
     exact hF _ _ hb
   . have hpa : p ≠ a:=fun z => by rw [z,nl.sub _ _ gd] at hp; cases hp
     have hga : ∀ n ∈ ps.map (·.1),ad n ≠ a:=fun n hn z => by have:=nl.new n hn; rw [z,gd] at this; cases this
     refine ⟨by rw [ao (Ne.symm hpa)]; exact nl.sub _ _ gd,dct (ad:=ad) ⟨fun q hq => ?_,fun n hn => ?_,nl.inj,fun b o hb => ?_⟩ ?_⟩
     . have h1:=List.mem_map_of_mem (f:=(·.1)) hq
       rw [ao (hga _ h1),ao (fun z => by have:=nl.ls q hq; rw [z,hp] at this; cases this)]
       exact nl.ls q hq
     . have:=nl.new n hn
       rwa [ao (hga n hn)] at this
     . by_cases z : b = a
       . rw [z,aH]
         rw [z,e] at hb
         exact hb
       . rw [ao z]
         have h1:=nl.sub b o (by rw [ao z]; exact hb)
         rw [ao (fun y => by rw [y,hp] at h1; cases h1)]
         exact h1
     . rw [ao hpa,aH]
 . rename_i ob raw kvs e
   cases hd
   right
   have up : ∀ {G'},Sub G G' -> aG G' a = some ts:=fun {G'} sb => by unfold aG; rw [sb _ _ e]
   simp only [pN,fH,fB,cr,ef hi]
   refine x8 e ?_
   rw [hk]
   refine vO hg.nd hl6 (fun G' sb => sb _ _ e) (zU hi hij hj (fun G' sb => up sb) r fun b xs hb => hF _ _ hb) fun ad G' nl p hp => ?_
   refine dct (ad:=ad) ⟨fun q hq => ?_,nl.new,nl.inj,nl.sub.trans (Sub.gup hp)⟩ aH
   rw [ao (fun z => by have:=nl.ls q hq; rw [z,hp] at this; cases this)]
   exact nl.ls q hq
 . cases hd
theorem aaS {F G : Gp} (s : Sub F G) {a : Addr} {kvs : List (T × T)} (h : aG F a = some kvs) : aG G a = some kvs:=by
 unfold aG at h ⊢
 split at h
 . rename_i e; rw [s _ _ e]; exact h
 . rename_i e; rw [s _ _ e]; exact h
 . cases h
def gH (ps : Parts) (nm : Str) (l : List Nd) : Parts:=ps.map fun q => (q.1,if q.1 = nm then l else q.2)
theorem kM {ps : Parts} {nm : Str} {l : List Nd} : (gH ps nm l).map (·.1) = ps.map (·.1):=by rw [gH,List.map_map]; rfl
def ng (ps : Parts) : Prop:=∃ B : List Str,B.length <= 5 /\ ∀ b ∈ di ps,b ∈ B
theorem yg {ps : Parts} {nm : Str} {l : List Nd} {B : List Str} (g : GoodParts ps) (hB : B.length <= 6) (hb : ∀ b ∈ di ps,b ∈ B) (h1 : 1 <= l.length) (h2 : l.length <= 12) (hok : ∀ x ∈ l,eT l.length (ps.map (·.1)) x) (hl : ∀ b ∈ l.filterMap cO,b ∈ B) : GoodParts (gH ps nm l):=by
 have mem : ∀ q ∈ gH ps nm l,∃ q0 ∈ ps,q.1 = q0.1 /\ (q.2 = l \/ q.2 = q0.2):=fun q hq => by
  obtain ⟨q0,h0,rfl⟩:=List.mem_map.mp hq
  refine ⟨q0,h0,rfl,?_⟩
  show (if q0.1 = nm then l else q0.2) = l \/ (if q0.1 = nm then l else q0.2) = q0.2
  split
  . exact .inl rfl
  . exact .inr rfl
 refine ⟨by rw [kM]; exact g.nd,by rw [gH,List.length_map]; exact g.len,by rw [kM]; exact g.main,fun q hq => ?_,fun q hq => ?_,fun q hq => ?_,⟨B,hB,fun b hb' => ?_⟩⟩
 . obtain ⟨q0,h0,e,_⟩:=mem q hq
   rw [e]; exact g.name q0 h0
 . obtain ⟨q0,h0,e,z | z⟩:=mem q hq
   . rw [z]; exact ⟨h1,h2⟩
   . rw [z]; exact g.nodes q0 h0
 . obtain ⟨q0,h0,e,z | z⟩:=mem q hq
   . rw [z,kM]; exact hok
   . rw [z,kM]; exact g.ok q0 h0
 . obtain ⟨q,hq,hb2⟩:=List.mem_flatMap.mp hb'
   obtain ⟨q0,h0,e,z | z⟩:=mem q hq
   . rw [z] at hb2; exact hl b hb2
   . rw [z] at hb2; exact hb b (List.mem_flatMap.mpr ⟨q0,h0,hb2⟩)
theorem adP {m : Nat} {names : List Str} : ∀ {x : Nd},eT m names x -> eT (m + 1) names x
 | .fin,_ => trivial
 | .skip _,h => ⟨h.1,fun i hi => Nat.lt_succ_of_lt (h.2 i hi)⟩
 | .touch _ _,h => ⟨h.1,h.2.1,fun i hi => Nat.lt_succ_of_lt (h.2.2 i hi)⟩
 | .call _ _,h => ⟨h.1,h.2.1,fun i hi => Nat.lt_succ_of_lt (h.2.2 i hi)⟩
def oM : List Nd:=[.fin,.skip [],.touch "c" []]
theorem xu {m : Nat} {names : List Str} {x : Nd} (h : x ∈ oM) : eT m names x /\ ∀ b,cO x = some b -> b = "c":=by
 have z : ie m []:=⟨.nil,fun i hi => by cases hi⟩
 rcases List.mem_cons.mp h with rfl | h
 . exact ⟨trivial,fun b e => by cases e⟩
 rcases List.mem_cons.mp h with rfl | h
 . exact ⟨z,fun b e => by cases e⟩
 rw [List.mem_singleton.mp h]
 exact ⟨⟨nR (by decide +kernel),z⟩,fun b e => by cases e; rfl⟩
theorem adD {ps : Parts} {nm : Str} {l : List Nd} (g : GoodParts ps) (hf : ng ps) (h8 : ∀ q ∈ ps,q.2.length <= 8) (h : (nm,l) ∈ ps) : GoodParts (gH ps nm (l ++ [.fin])):=by
 obtain ⟨B,hB,hb⟩:=hf
 refine yg g (B:=B) (by omega) hb (by simp) (by have h9 : l.length <= 8:=h8 _ h; simp; omega) (fun x hx => ?_) fun b hb' => ?_
 . rw [List.length_append]
   rcases List.mem_append.mp hx with z | z
   . exact adP (g.ok _ h x z)
   . rw [List.mem_singleton.mp z]; trivial
 . obtain ⟨x,hx,e⟩:=List.mem_filterMap.mp hb'
   rcases List.mem_append.mp hx with z | z
   . exact hb b (List.mem_flatMap.mpr ⟨_,h,List.mem_filterMap.mpr ⟨x,z,e⟩⟩)
   . rw [List.mem_singleton.mp z] at e; cases e
theorem aaK {ps : Parts} {nm : Str} {l : List Nd} {j : Nat} {x : Nd} (g : GoodParts ps) (hf : ng ps) (h : (nm,l) ∈ ps) (hx : x ∈ oM) : GoodParts (gH ps nm (l.set j x)):=by
 obtain ⟨B,hB,hb⟩:=hf
 have hl:=g.nodes _ h
 refine yg g (B:="c" :: B) (by simp; omega) (fun b hb' => List.mem_cons_of_mem _ (hb b hb')) (by rw [List.length_set]; exact hl.1) (by rw [List.length_set]; exact hl.2) (fun y hy => ?_) fun b hb' => ?_
 . rw [List.length_set]
   rcases List.mem_or_eq_of_mem_set hy with z | z
   . exact g.ok _ h y z
   . rw [z]; exact (xu hx).1
 . obtain ⟨y,hy,e⟩:=List.mem_filterMap.mp hb'
   rcases List.mem_or_eq_of_mem_set hy with z | z
   . exact List.mem_cons_of_mem _ (hb b (List.mem_flatMap.mpr ⟨_,h,List.mem_filterMap.mpr ⟨y,z,e⟩⟩))
   . rw [z] at e
     rw [(xu (m:=0) (names:=[]) hx).2 b e]
     exact List.mem_cons_self
structure Chg (G : Gp) (d D : Addr) (ps : Parts) (ad : Str -> Addr) (n : Nat) (G' : Gp) : Prop where
 dr : G' d = some (.drw n)
 dc : G' D = some (.dic (ps.map fun q => (.str q.1,.ref (ad q.1))))
 ls : ∀ q ∈ ps,G' (ad q.1) = some (.lst (q.2.map bz))
 keep : ∀ b o,b ≠ d -> G b = some o -> G' b = some o
theorem Chg.up {G : Gp} {d D : Addr} {ps : Parts} {ad : Str -> Addr} {n : Nat} {G' G2 : Gp} (h : Chg G d D ps ad n G') (s : Sub G' G2) : Chg G d D ps ad n G2:=⟨s _ _ h.dr,s _ _ h.dc,fun q hq => s _ _ (h.ls q hq),fun b o hb e => s _ _ (h.keep b o hb e)⟩
theorem Chg.next {G : Gp} {d D : Addr} {ps : Parts} {ad : Str -> Addr} {n : Nat} {G' : Gp} (h : Chg G d D ps ad n G') (m : Nat) : Chg G d D ps ad m (gup G' d (.drw m)) :=
 ⟨aH,by rw [ao (fun z => by have:=h.dc; rw [z,h.dr] at this; cases this)]; exact h.dc,fun q hq => by rw [ao (fun z => by have:=h.ls q hq; rw [z,h.dr] at this; cases this)]; exact h.ls q hq,fun b o hb e => by rw [ao hb]; exact h.keep b o hb e⟩
theorem Chg.set {G : Gp} {d D : Addr} {ps : Parts} {ad : Str -> Addr} {n : Nat} {G' : Gp} (h : Chg G d D ps ad n G') (inj : ∀ n ∈ ps.map (·.1),∀ m ∈ ps.map (·.1),ad n = ad m -> n = m) (new : ∀ n ∈ ps.map (·.1),G (ad n) = none) {nm : Str} (hn : nm ∈ ps.map (·.1)) (l : List Nd) : Chg G d D (gH ps nm l) ad n (gup G' (ad nm) (.lst (l.map bz))):=by
 obtain ⟨q0,hq0,rfl⟩:=List.mem_map.mp hn
 have e0:=h.ls q0 hq0
 refine ⟨by rw [ao (fun z => by have:=h.dr; rw [z,e0] at this; cases this)]; exact h.dr,?_,fun q hq => ?_,fun b o hb e => ?_⟩
 . rw [ao (fun z => by have:=h.dc; rw [z,e0] at this; cases this),h.dc,gH,List.map_map]
   rfl
 . obtain ⟨q1,hq1,rfl⟩:=List.mem_map.mp hq
   by_cases z : q1.1 = q0.1
   . show gup G' (ad q0.1) _ (ad q1.1) = some (.lst ((if q1.1 = q0.1 then l else q1.2).map bz))
     rw [if_pos z,z,aH]
   . show gup G' (ad q0.1) _ (ad q1.1) = some (.lst ((if q1.1 = q0.1 then l else q1.2).map bz))
     rw [if_neg z,ao (fun y => z (inj _ (List.mem_map_of_mem hq1) _ hn y))]
     exact h.ls q1 hq1
 . rw [ao (fun z => by rw [z,new _ hn] at e; cases e)]
   exact h.keep b o hb e
end
noncomputable section
theorem zL {fx : Fx} {F G G' : Gp} {own : Nat -> Gp} {S : S2} {σ : SV} (g : VRel fx F own S G σ) {i : Nat} {H' : Gp} {c : Cell} (hG : ∀ b o,G b = some o -> own i b = none -> G' b = some o) (hs : Sub H' G') (hd : ∀ b,H' b ≠ none -> own i b ≠ none \/ G b = none) (r : ∃ t,S[i]? = some (some t) /\ bu F H' t c) :
    VRel fx F (ec own i H') S G' (ac σ i (some c)):=by
 have up : ∀ {M : Gp},Sub M G -> (∀ b,M b ≠ none -> own i b = none) -> Sub M G':=fun s h b o e => hG b o (s b o e) (h b (by rw [e]; simp))
 have hF : ∀ b,F b ≠ none -> own i b = none:=fun b e => by
  cases z : own i b with
  | none => rfl
  | some o => exact absurd (g.owF i b (by rw [z]; simp)).1 e
 have hFr : ∀ b,fx.Fr b ≠ none -> own i b = none:=fun b e => by
  cases z : own i b with
  | none => rfl
  | some o => exact absurd (g.owF i b (by rw [z]; simp)).2 e
 have nG : ∀ {M : Gp} {b : Addr},Sub M G -> G b = none -> M b = none:=fun {M b} s h => by
  cases z : M b with
  | none => rfl
  | some o => rw [s _ _ z] at h; cases h
 refine ⟨g.len,g.pin,up g.sub hF,up g.frs hFr,g.frF,fun j => ?_,fun j b e => ?_,fun j k b hjk e => ?_,fun j d e => ?_,g.px⟩
 . by_cases z : j = i
   . subst z; rw [bC]; exact hs
   . rw [bf z]; exact up (g.owG j) fun b e => g.dis j i b z e
 . by_cases z : j = i
   . subst z
     rw [bC] at e
     rcases hd b e with h | h
     . exact g.owF j b h
     . exact ⟨nG g.sub h,nG g.frs h⟩
   . rw [bf z] at e; exact g.owF j b e
 . by_cases z : j = i
   . subst z
     rw [bC] at e
     rw [bf (fun y => hjk y.symm)]
     rcases hd b e with h | h
     . exact g.dis j k b hjk h
     . exact nG (g.owG k) h
   . rw [bf z] at e
     by_cases y : k = i
     . subst y
       rw [bC]
       cases q : H' b with
       | none => rfl
       | some o =>
        rcases hd b (by rw [q]; simp) with h | h
        . exact absurd (g.dis j k b hjk e) h
        . exact absurd (nG (g.owG j) h) e
     . rw [bf y]; exact g.dis j k b hjk e
 . by_cases z : j = i
   . subst z
     rw [cf,if_pos rfl] at e
     cases e
     rw [bC]
     exact r
   . rw [cf,if_neg z] at e
     rw [bf z]
     exact g.cell j d e
theorem qN {fx : Fx} {F F' G G' : Gp} {own : Nat -> Gp} {S S' : S2} {σ σ' : SV} (g : VRel fx F own S G σ) (hl : S'.length = S.length) (hp : ∀ i ∈ fx.io,S'[i]? = S[i]?) (hs : Sub G G') (hF : Sub F F') (hF' : Sub F' G') (new : ∀ a,F' a ≠ none -> F a = none -> G a = none)
 (cells : ∀ i c,σ' i = some c -> (σ i = some c /\ S'[i]? = S[i]?) \/ ∃ t p,S'[i]? = some (some t) /\ c = .fr p /\ Rp F' t p) : VRel fx F' own S' G' σ':=by
 refine ⟨hl.trans g.len,fun i hi => (hp i hi).trans (g.pin i hi),hF',g.frs.trans hs,fun a ha => ?_,fun i => (g.owG i).trans hs,fun i a ha => ?_,g.dis,fun i c e => ?_,g.px.up hF⟩
 . cases z : F a with
   | some o => exact g.frF a (by rw [z]; exact fun h => by cases h)
   | none =>
    have h1:=new a ha z
    cases y : fx.Fr a with
    | none => rfl
    | some o => rw [g.frs _ _ y] at h1; cases h1
 . obtain ⟨h1,h2⟩:=g.owF i a ha
   refine ⟨?_,h2⟩
   cases z : F' a with
   | none => rfl
   | some o =>
    have h3:=new a (by rw [z]; exact fun h => by cases h) h1
    cases y : own i a with
    | none => exact absurd y ha
    | some u => rw [g.owG i _ _ y] at h3; cases h3
 . rcases cells i c e with ⟨h1,h2⟩ | ⟨t,p,h1,rfl,h2⟩
   . obtain ⟨t,h3,h4⟩:=g.cell i c h1
     exact ⟨t,h2.trans h3,h4.sub hF⟩
   . exact ⟨t,h1,h2⟩
theorem aex {a : Addr} {xs : List T} {j : Nat} {v : T} {G : Gp} {Ψ : Gp -> Prop} (h : G a = some (.lst xs)) (hj : j < xs.length) (q : Ψ (gup G a (.lst (xs.set j v)))) : setT (.ref a) (.int (j : Int)) v G Ψ:=by
 have e : ixN xs.length (j : Int) = some j:=by
  unfold ixN
  rw [if_pos (by omega),if_pos (by omega)]
  simp
 simp only [setT,h,e]
 exact q
open Classical in
def d9 (P : Addr -> Prop) (G' F : Gp) : Gp:=fun a => if P a then G' a else F a
theorem i5 {P : Addr -> Prop} {G' F : Gp} {a : Addr} (h : P a) : d9 P G' F a = G' a:=by unfold d9; rw [if_pos h]
theorem iB {P : Addr -> Prop} {G' F : Gp} {a : Addr} (h : ¬ P a) : d9 P G' F a = F a:=by unfold d9; rw [if_neg h]
theorem acR {fx : Fx} {F G G' : Gp} {own : Nat -> Gp} {S S' : S2} {σ : SV} {VL : VEnds} {L : LEnds} {d D : Addr} {qs : Parts} {ad : Str -> Addr} {n n' : Nat} (g : VRel fx F own S G σ) (k : VOk fx F VL L) (ho : own 0 = one d (.drw n)) (e0 : S'[0]? = some (some (.ref d))) (hl : S'.length = S.length) (hp : ∀ i ∈ fx.io,S'[i]? = S[i]?)
 (new : ∀ m ∈ qs.map (·.1),G (ad m) = none) (hD : G D = none) (c : Chg G d D qs ad n' G') (q : VL.rt (.v (.ow (.dic (ap qs)))) (ac bp 0 (some (.ab (drw n'))))) : L.rt (.ref D) G':=by
 let P : Addr -> Prop:=fun a => ∃ m,m ∈ qs.map (·.1) /\ ad m = a
 let F1 : Gp:=d9 P G' F
 have hdG : G d = some (.drw n):=g.owG 0 _ _ (by rw [ho]; exact bL)
 have nF : ∀ a,G a = none -> F a = none /\ fx.Fr a = none:=fun a h => by
  constructor
  . cases z : F a with
    | none => rfl
    | some u => have:=g.sub _ _ z; rw [h] at this; cases this
  . cases z : fx.Fr a with
    | none => rfl
    | some u => have:=g.frs _ _ z; rw [h] at this; cases this
 have sF : Sub F F1:=fun a o e => by
  show d9 P G' F a = _
  rw [iB (fun ⟨m,hm,z⟩ => by have:=g.sub _ _ e; rw [<- z,new m hm] at this; cases this)]
  exact e
 have g1 : VRel fx F1 own S' (aU G G') (ac bp 0 none):=by
  refine qN g hl hp cV sF (fun a o e => ?_) (fun a h1 h2 => ?_) fun i c e => ?_
  . have e : d9 P G' F a = some o:=e
    by_cases z : P a
    . rw [i5 z] at e
      obtain ⟨m,hm,rfl⟩:=z
      unfold aU
      rw [new m hm]
      exact e
    . rw [iB z] at e
      exact cV _ _ (g.sub _ _ e)
  . have h1 : d9 P G' F a ≠ none:=h1
    by_cases z : P a
    . obtain ⟨m,hm,rfl⟩:=z
      exact new m hm
    . rw [iB z] at h1
      exact absurd h2 h1
  . unfold ac bp at e
    split at e <;> cases e
 have g2 : VRel fx F1 (ec own 0 (one d (.drw n'))) S' G' (ac (ac bp 0 none) 0 (some (.ab (drw n')))):=by
  refine zL g1 (fun b o e h => ?_) (fun b o e => ?_) (fun b e => ?_) ⟨.ref d,e0,d,rfl,rfl⟩
  . rcases gS e with e | e
    . exact c.keep b o (fun z => by rw [z,ho,bL] at h; cases h) e
    . exact e
  . obtain ⟨rfl,rfl⟩:=gq e
    exact c.dr
  . rw [fP e,ho,bL]
    exact .inl (by simp)
 have g3 : VRel fx F1 (ec own 0 (one d (.drw n'))) S' G' (ac bp 0 (some (.ab (drw n')))):=g2.less fun i c e => by
  unfold ac at e ⊢
  split at e
  . rename_i z; rw [if_pos z]; exact e
  . cases e
 have hDa : ¬ P D:=fun ⟨m,hm,z⟩ => by
  obtain ⟨q,hq,rfl⟩:=List.mem_map.mp hm
  have h1:=c.ls q hq
  rw [z,c.dc] at h1
  cases h1
 refine k.rt _ _ F1 _ S' G' (.ref D) q ⟨sF⟩ g3 ⟨one D (.dic (qs.map fun q => (.str q.1,.ref (ad q.1)))),⟨D,_,rfl,rfl,rF (k:=fun _ => true) qs fun q hq _ => ?_⟩,fun b o e => ?_,fun b e => ?_,fun b i e => ?_⟩
 . show d9 P G' F _ = _
   rw [i5 ⟨_,List.mem_map_of_mem hq,rfl⟩]
   exact c.ls q hq
 . obtain ⟨rfl,rfl⟩:=gq e; exact c.dc
 . rw [fP e]
   refine ⟨?_,(nF D hD).2⟩
   show d9 P G' F D = none
   rw [iB hDa]
   exact (nF D hD).1
 . rw [fP e]
   by_cases z : i = 0
   . rw [z,bC]
     cases y : one d (O.drw n') D with
     | none => rfl
     | some o => obtain ⟨z,_⟩:=gq y; rw [z,hdG] at hD; cases hD
   . rw [bf z]
     cases y : own i D with
     | none => rfl
     | some o => have:=g.owG i _ _ y; rw [hD] at this; cases this
end
noncomputable section
def wn : SpV:=fun σ Ψ _ => ∃ (n : Nat) (ps : Parts),σ 0 = some (.ab (drw n)) /\ σ 1 = some (.fr (.dic (ap ps))) /\ GoodParts ps /\ ng ps /\ (∀ q ∈ ps,q.2.length <= 8) /\ n + 4 < dw /\
 ∀ (qs : Parts) (n' : Nat),GoodParts qs -> n' <= n + 4 -> Ψ (.ow (.dic (ap qs))) (bt n')
theorem ii : FnScope ["_law_draw","_law_parts_here","_law_found","_law_name","_law_row"] ["_law_draw","_law_parts_here"] (defScope (top 30)):=⟨rfl,rfl,rfl,by decide +kernel,rfl,by decide +kernel,by decide +kernel⟩
theorem acP (V : Env K mg base aN az aw ai) : c9 P w K mg base 7 "_law_changed" 2 [0] wn:=by
 refine eA (io:=[0]) V.d__law_changed ii rfl (by decide) fun f0 cdv A0 outer s H E en hr => ⟨_,(adK (cX (fu (j:=2) ii.nd rfl (by first | exact .inl rfl | exact .inr rfl) (ke V.b_dict (ea_cons (tZ (tM (jq [("_law_name",3)] ii.nd (gh (aa 1)) (fun _ _ _ _ _ => (gm (j:=3) ii.nd rfl (by first | exact .inl rfl | exact .inr rfl))) (fun _ _ _ _ _ => jr) (fun _ _ _ _ _ => (eJ (ea_cons (aa 3) (ea_cons (gY V.b_list (ea_cons (aE hr.u9 (aa 1) (aa 3) (fun _ _ => rfl)) ea_nil)) ea_nil)))))) (jq [("_law_name",3)] ii.nd (gh (aa 1)) (fun _ _ _ _ _ => (gm (j:=3) ii.nd rfl (by first | exact .inl rfl | exact .inr rfl))) (fun _ _ _ _ _ => jr) (fun _ _ _ _ _ => (eJ (ea_cons (aa 3) (ea_cons (gY V.b_list (ea_cons (aE hr.u9 (aa 1) (aa 3) (fun _ _ => rfl)) ea_nil)) ea_nil)))))) ea_nil))) (cX (fu (j:=3) ii.nd rfl (by first | exact .inl rfl | exact .inr rfl) (aY (yP V) (hr.mono (by decide)) (ea_cons (aa 0) (ea_cons (iS V.b_sorted (ea_cons (aa 2) ea_nil)) ea_nil)))) (cX (fu (j:=4) ii.nd rfl (by first | exact .inl rfl | exact .inr rfl) (aE hr.u9 (aa 2) (aa 3) (fun _ _ => rfl))) (cX (s_if (aT (dA hr.u64) (aY (oU V) (hr.mono (by decide)) (ea_cons (aa 0) (ea_cons cG ea_nil))) cG) (ei (pQ (fX (aa 4) (ea_cons (eJ (ea_cons bQ ea_nil)) ea_nil)))) (ei (ka hr.u9 (aa 4) (aY (oU V) (hr.mono (by decide)) (ea_cons (aa 0) (ea_cons (cK V.b_len (ea_cons (aa 4) ea_nil)) ea_nil))) (aY (yP V) (hr.mono (by decide)) (ea_cons (aa 0) (ea_cons (kJ (ea_cons (eJ (ea_cons bQ ea_nil)) (ea_cons (eJ (ea_cons bQ (ea_cons (eJ ea_nil) ea_nil))) (ea_cons (eJ (ea_cons bQ (ea_cons bQ (ea_cons (eJ ea_nil) ea_nil)))) ea_nil)))) ea_nil)))))) (ei (s_ret (aa 2)))))))),?_⟩
 rintro σ Ψ ΨE ⟨n,ps,h0,h1,hg,hfew,hl8,hn,q⟩
 intro w F own S G L g k
 obtain ⟨t0,e0,d,rfl,hod⟩:=g.cell 0 _ h0
 obtain ⟨t1,e1,r1⟩:=g.cell 1 _ h1
 have hlen : S.length = 5:=g.len
 obtain ⟨t2,t3,t4,rfl⟩ : ∃ t2 t3 t4,S = [some (.ref d),some t1,t2,t3,t4]:=by
  match S,hlen,e0,e1 with
  | [a,b,c,e,f],_,e0,e1 =>
   simp at e0 e1
   subst e0 e1
   exact ⟨c,e,f,rfl⟩
 have r1 : Rp F t1 (.dic (ap ps)):=r1
 refine sq (M:=fun S' G' => ∃ D ad,S' = [some (.ref d),some t1,some (.ref D),t3,t4] /\ NewL G G' ps ad /\ G' D = some (.dic (ps.map fun q => (.str q.1,.ref (ad q.1)))) /\ G D = none) ?_ (fun R hR => ?_)
 rotate_left
 . simp only [DVQ]
   cases r1 with
   | dic hd rd =>
   exact vU (i:=1) (j:=3) (S:=[some (.ref d),some (.ref _),t2,t3,t4]) rfl (by decide) (Nat.lt_of_sub_eq_succ rfl) (aaS g.sub hd) rd g.sub hg fun D ad G' nl hD hGD => hR _ _ _ (Sub.refl _) ⟨D,ad,rfl,nl,hD,hGD⟩
 rintro S' G1 ⟨D,ad,rfl,nl,hD,hGD⟩
 have hdG : G d = some (.drw n):=g.owG 0 _ _ (by rw [hod]; exact bL)
 have hks : (List.map (fun kv : T × T => kv.1) (ps.map fun q => (T.str q.1,T.ref (ad q.1)))) = (ps.map (·.1)).map T.str:=by rw [List.map_map,List.map_map]; rfl
 have hl6:=hg.len.2
 have hl1:=hg.len.1
 have c1 : Chg G d D ps ad n G1:=⟨nl.sub _ _ hdG,hD,nl.ls,fun b o _ e => nl.sub _ _ e⟩
 refine sq (M:=fun S' G' => ∃ nm,nm ∈ ps.map (·.1) /\ S' = [some (.ref d),some t1,some (.ref D),some (.str nm),t4] /\ Chg G d D ps ad (n + 1) G') ?_ (fun R hR => ?_)
 rotate_left
 . simp only [DVQ]
   simp only [gI,hD]
   refine ⟨ps.map (·.1),hks,by rw [List.length_map]; omega,fun ys p hys hso hp => ?_⟩
   have c2:=c1.up (Sub.gup (o:=.lst (ys.map T.str)) hp)
   have hyl : (ys.map T.str).length = ps.length:=by rw [List.length_map,hys.length_eq,List.length_map]
   refine ⟨d,p,n,ys.map T.str,rfl,c2.dr,aH,by omega,by omega,by omega,fun x hx => ?_⟩
   obtain ⟨nm,hnm,rfl⟩:=List.mem_map.mp hx
   exact hR _ _ _ (Sub.refl _) ⟨nm,hys.mem_iff.mp hnm,rfl,c2.next (n + 1)⟩
 rintro S' G2 ⟨nm,hnm,rfl,c2⟩
 obtain ⟨l,hlk,hlm⟩:=dW hnm
 have hrow : ∀ {m G'},Chg G d D ps ad m G' -> G' (ad nm) = some (.lst (l.map bz)):=fun c => c.ls (nm,l) hlm
 have hl12:=hg.nodes _ hlm
 have hl12 : 1 <= l.length /\ l.length <= 12:=hl12
 refine sq (M:=fun S' G' => S' = [some (.ref d),some t1,some (.ref D),some (.str nm),some (.ref (ad nm))] /\ Chg G d D ps ad (n + 1) G') ?_ (fun R hR => ?_)
 rotate_left
 . simp only [DVQ]
   have hdl : aP (ps.map fun q => ((.str q.1,.ref (ad q.1)) : T × T)) (.str nm) = some (.ref (ad nm)):=oQ (k:=fun _ => true) (ad:=ad) hlk
   exact i6 c2.dc hdl (hR _ _ _ (Sub.refl _) ⟨rfl,c2⟩)
 rintro S' G3 ⟨rfl,c3⟩
 refine sq (M:=fun S' G' => ∃ qs n',GoodParts qs /\ qs.map (·.1) = ps.map (·.1) /\ n' <= n + 4 /\ S' = [some (.ref d),some t1,some (.ref D),some (.str nm),some (.ref (ad nm))] /\ Chg G d D qs ad n' G') ?_ (fun R hR => ?_)
 rotate_left
 . simp only [DVQ]
   refine ⟨d,3,n + 1,rfl,c3.dr,by omega,by omega,fun r r0 r1 => ?_⟩
   have c4:=c3.next (n + 2)
   simp only [Dv.eqT,dq,if_true]
   by_cases hr0 : r = 0
   . subst hr0
     simp only [decide_true,if_true]
     refine ⟨uz (hrow c4),Nat.le_of_lt (dN (m:=1) (by decide)),?_⟩
     refine vI (hrow c4) (dN (by rw [List.length_map]; omega)) ?_
     have c5:=c4.set nl.inj nl.new hnm (l ++ [.fin])
     rw [List.map_append] at c5
     exact hR _ _ _ (Sub.refl _) ⟨_,n + 2,adD hg hfew hl8 hlm,kM,by omega,rfl,c5⟩
   . simp only [T.int.injEq,hr0,decide_false,Bool.false_eq_true,if_false]
     refine ⟨Nat.le_of_lt (dN (m:=1) (by decide)),Nat.zero_le _,Nat.le_of_lt (dN (m:=2) (by decide)),Nat.zero_le _,Nat.le_of_lt (dN (m:=3) (by decide)),Nat.le_of_lt (dN (m:=3) (by decide)),fun p hp => ?_⟩
     have c5:=c4.up (Sub.gup (o:=.lst (oM.map bz)) hp)
     refine ⟨d,p,n + 2,oM.map bz,rfl,c5.dr,aH,by decide,by decide,by omega,fun x hx => ?_⟩
     obtain ⟨x,hxo,rfl⟩:=List.mem_map.mp hx
     have c6:=c5.next (n + 3)
     refine qx (hrow c6) ⟨d,_,n + 3,rfl,c6.dr,by rw [List.length_map]; omega,by omega,fun r r0 r1 => ?_⟩
     have c7:=c6.next (n + 4)
     obtain ⟨j,rfl⟩:=Int.eq_ofNat_of_zero_le r0
     rw [List.length_map] at r1
     have hj : j < l.length:=by omega
     have c8:=c7.set nl.inj nl.new hnm (l.set j x)
     rw [List.map_set] at c8
     refine aex (hrow c7) (by rw [List.length_map]; exact hj) (hR _ _ _ (Sub.refl _) ⟨_,n + 4,aaK hg hfew hlm hxo,kM,by omega,rfl,c8⟩)
 rintro S' G4 ⟨qs,n',hgq,hqn,hn',rfl,c4⟩
 simp only [DVQ]
 refine acR (n:=n) g k hod rfl rfl (fun i hi => ?_) (fun m hm => nl.new m (by rw [<- hqn]; exact hm)) hGD c4 ?_
 . have hi : i ∈ [0]:=hi
   obtain rfl : i = 0:=by simpa using hi
   rfl
 . simp only [jG]
   rw [iG (n:=n') (by simp [ac])]
   exact q qs n' hgq hn'
end
noncomputable section
def k6 (C : Addr) : SpV:=fun σ Ψ _ => ∃ ps : Parts,σ 0 = some (.fr (aA C ps)) /\ ∃ p,σ 1 = some (.fr p) /\ ((∃ qs : Parts,p = aA C qs /\ DOk (aX ps) (aX qs) /\ Ψ (.fr (.bl (dC (aX ps) (aX qs)))) bp) \/ ∃ n,tyP p = some n /\ n ∈ (["int","dict","NoneType"] : List String) /\ Ψ (.fr (.bl false)) bp)
theorem abv : FnScope ["self","other"] ["self","other"] (defScope (inClass (top 17) 1)):=⟨rfl,rfl,rfl,by decide +kernel,rfl,by decide +kernel,by decide +kernel⟩
theorem mQ (V : Env K mg base aN az aw ai) : mN P w K mg base 1 ai "__eq__" 2 [] (k6 ai):=by
 refine afb (io:=[]) V.c_Program V.d_Program___eq__ abv rfl (by decide) fun f cdv A outer s H E en hr => ⟨_,(aq (aZ (oK (aaT (fun _ h => aeB V.b_isinstance V.i_Program.2 h) (ev_var (aa 1))) (lX (ev_op (fun _ _ h k => fL (uQ hr.u65) h k) qB (fQ (fun _ h => eX h V.c_Program V.n_Program_parts) (ev_var (aa 0))) (fQ (fun _ h => eX h V.c_Program V.n_Program_parts) (ev_var (aa 1)))))))),?_⟩
 rintro σ Ψ ΨE ⟨ps,h0,p,h1,hd⟩
 rcases hd with ⟨qs,rfl,hd,q⟩ | ⟨n,hn,hm,q⟩
 . simp only [aA] at h0 h1
   simp only [VVQ,cL,h0,h1,eM]
   refine ⟨V.i_Program.1,true,V.i_Program.1.me,?_⟩
   simp only [VVQ,h0,h1,eM,if_true,Bool.false_eq_true,if_false,bE]
   exact ⟨hd,q⟩
 . simp only [aA] at h0
   cases p with
   | ins D fs => cases hn
   | _ =>
    all_goals
     first
     | (cases hn; done)
     | (cases hn
        exfalso
        simp at hm
        done)
     | (cases hn
        simp only [VVQ,cL,h0,h1]
        refine ⟨false,V.kt_Program _ hm,?_⟩
        simp only [Bool.false_eq_true,if_false,bE]
        exact q)
def vQ (C : Addr) (neg : Bool) : Cell -> Cell -> (Bool -> Prop) -> Prop:=fun c d k => ∃ ps qs : Parts,c = .fr (aA C ps) /\ (d = .fr (aA C qs) \/ d = .ow (aA C qs)) /\ DOk (aX ps) (aX qs) /\ k (if neg then !dC (aX ps) (aX qs) else dC (aX ps) (aX qs))
theorem aeb {C : Addr} {F G Hu : Gp} {u : T} {d : Cell} {qs : Parts} (s : Sub F G) (su : Sub Hu G) (hd : bu F Hu u d) (h : d = .fr (aA C qs) \/ d = .ow (aA C qs)) : ∃ F',Sub F F' /\ Sub F' G /\ Rp F' u (aA C qs):=by
 rcases h with rfl | rfl
 . exact ⟨F,Sub.refl _,s,hd⟩
 . refine ⟨aU F Hu,cV,fun a o e => (gS e).elim (s a o) (su a o),?_⟩
   obtain ⟨a,ts,rfl,rfl,h3⟩:=(hd : Ow F Hu u (aA C qs))
   have hG:=su a _ bL
   refine .ins ?_ (h3.sub cV)
   unfold aU
   cases z : F a with
   | none => exact bL
   | some o => rw [s _ _ z] at hG; exact hG
theorem qJ {C : Addr} {F : Gp} {u : T} {qs : Parts} (h : Rp F u (aA C qs)) : ∃ a fs,u = .ref a /\ F a = some (.ins C fs):=by
 cases h with
 | ins h1 h2 => exact ⟨_,_,rfl,h1⟩
theorem yR {C : Addr} {F G Hu : Gp} {t u : T} {d : Cell} {ps qs : Parts} {R : QT} (s : Sub F G) (su : Sub Hu G) (hc : bu F Hu t (.fr (aA C ps)) \/ Rp F t (aA C ps)) (hd : bu F Hu u d) (h : d = .fr (aA C qs) \/ d = .ow (aA C qs)) (ok : DOk (aX ps) (aX qs))
 (k : ∀ G',Sub G G' -> R (.bl (dC (aX ps) (aX qs))) G') : (∃ a b fs gs,t = .ref a /\ u = .ref b /\ G a = some (.ins C fs) /\ G b = some (.ins C gs)) /\ bV 2 [] (k6 C) [t,u] G R bH:=by
 have hc : Rp F t (aA C ps):=hc.elim id id
 obtain ⟨F',s1,s2,hu⟩:=aeb s su hd h
 obtain ⟨a,fs,ea,ha⟩:=qJ hc
 obtain ⟨b,gs,eb,hb⟩:=qJ hu
 refine ⟨⟨a,b,fs,gs,ea,eb,s _ _ ha,s2 _ _ hb⟩,?_⟩
 refine tH (F:=F') (ps:=[aA C ps,aA C qs]) (fun c => c = .fr (.bl (dC (aX ps) (aX qs)))) s2 (.cons (hc.sub s1) (.cons hu .nil)) rfl ⟨ps,rfl,_,rfl,.inl ⟨qs,rfl,ok,rfl⟩⟩ fun c F2 H t G' hc _ _ s3 hcell _ _ => ?_
 subst hc
 have hcell : Rp F2 t (.bl (dC (aX ps) (aX qs))):=hcell
 cases hcell
 exact k _ s3
theorem aaM {C : Addr} : kl (yE C (bV 2 [] (k6 C))) (vQ C false):=by
 rintro F G Ht Hu t u c d k Φ s st su hc hd ⟨ps,qs,rfl,hd',ok,hk⟩ q
 obtain ⟨⟨a,b,fs,gs,h1,h2,h3,h4⟩,h5⟩:=yR (R:=fun r G' => ∃ c : Bool,r = .bl c /\ Φ r G') s su (.inr hc) hd hd' ok fun G' s' => ⟨_,rfl,q _ _ s' hk⟩
 exact ⟨a,b,fs,gs,h1,h2,h3,h4,h5⟩
theorem yS {C : Addr} : kl (yh C (bV 2 [] (k6 C))) (vQ C true):=by
 rintro F G Ht Hu t u c d k Φ s st su hc hd ⟨ps,qs,rfl,hd',ok,hk⟩ q
 obtain ⟨⟨a,b,fs,gs,h1,h2,h3,h4⟩,h5⟩:=yR (R:=fun r G' => ∃ c : Bool,r = .bl c /\ Φ (.bl !c) G') s su (.inr hc) hd hd' ok fun G' s' => ⟨_,rfl,q _ _ s' hk⟩
 exact ⟨a,b,fs,gs,h1,h2,h3,h4,h5⟩
def aao (C : Addr) : Cell -> Cell -> (Bool -> Prop) -> Prop:=fun c d k => (∃ ps : Parts,c = .fr (aA C ps)) /\ (d = .fr .non \/ (∃ i,d = .fr (.int i)) \/ ∃ l,d = .fr (.dic l)) /\ k false
theorem acf {C : Addr} : kl (wJ C (bV 2 [] (k6 C))) (aao C):=by
 rintro F G Ht Hu t u c d k Φ s st su hc hd ⟨⟨ps,rfl⟩,hx,hk⟩ q
 have hc : Rp F t (aA C ps):=hc
 obtain ⟨a,fs,ea,ha⟩:=qJ hc
 have ho : ∃ n p,kB G u = some n /\ tyP p = some n /\ n ∈ (["int","dict","NoneType"] : List String) /\ Rp F u p:=by
  rcases hx with rfl | ⟨i,rfl⟩ | ⟨l,rfl⟩
  . have hd : Rp F u .non:=hd
    cases hd
    exact ⟨_,.non,rfl,rfl,by simp,.non⟩
  . have hd : Rp F u (.int i):=hd
    cases hd
    exact ⟨_,.int i,rfl,rfl,by simp,.int i⟩
  . have hd : Rp F u (.dic l):=hd
    have h0:=hd
    cases hd with
    | @dic b _ ts h1 r1 =>
    unfold aG at h1
    split at h1
    . rename_i e
      exact ⟨_,.dic l,by simp only [kB,s _ _ e],rfl,by simp,h0⟩
    . rename_i e
      exact ⟨_,.dic l,by simp only [kB,s _ _ e],rfl,by simp,h0⟩
    . cases h1
 obtain ⟨n,p,h1,h2,h3,h4⟩:=ho
 refine ⟨a,fs,n,ea,s _ _ ha,h1,?_⟩
 refine tH (F:=F) (ps:=[aA C ps,p]) (fun c => c = .fr (.bl false)) s (.cons hc (.cons h4 .nil)) rfl ⟨ps,rfl,_,rfl,.inr ⟨n,h2,h3,rfl⟩⟩ fun c F2 H t G' hc _ _ s3 hcell _ _ => ?_
 subst hc
 have hcell : Rp F2 t (.bl false):=hcell
 cases hcell
 exact ⟨_,rfl,q _ _ s3 hk⟩
end
noncomputable section
section
variable {x : Str} {st : Stmt} {N ps : List Str} {k : Nat} {f : Addr} {fd : FuncData}
def yl (a : Addr) : SV:=ac (ye a) 2 (some (.ow (.lst [])))
def qE (a : Addr) : LS:=kX 1 2 (dD (fun S G Φ => cr 0 S G fun t G1 => t = .ref a /\ oJ [.ref a] G1 Φ bH) (dD (lO fe) fe))
abbrev abb (P : Program) (w : World) (K : Fr0) (mg : Str -> Option Value) (base : Heap) (N : List Str) (x : Str) (st : Stmt) (f : Addr) (k : Nat) : Prop :=
 ∀ (cdv : Value) (A : Around) (outer : List PySem.Env) (s : Shared) (H : Hp) (E : XK) (en : En) (a : Addr) (ns : List Int),Room k (A.deeper (envOfC x (defScope st) s.heap.objs.size f cdv)) -> A.guards = some [] -> ns.length <= 63 -> (∀ H' G',HRel K en H' G' -> eL K H' G' a ns) ->
  ∃ st0 rest vs,defBody st = st0 :: rest /\ Es en (bx P w K mg base N x (defScope st) f cdv A outer s H E) st0 (qE a) /\
   dG en (bx P w K mg base N x (defScope st) f cdv A outer s H E) ⟨[],none⟩ rest vs /\ vs mF (yl a)
theorem adl {en : En} {X : Cx} {st0 : Stmt} {rest : List Stmt} {vs : VS} {G : Gp} {Φ : QT} {a : Addr} (hN : 3 <= X.N.length) (h0 : Es en X st0 (qE a)) (hr2 : dG en X ⟨[],none⟩ rest vs) (hv : vs mF (yl a))
 (hsp : ir [.ref a] G Φ bH) : ∃ l,dj en X (st0 :: rest) l /\ l (gj Φ) (bo X.N [.ref a]) G:=by
 obtain ⟨a',e',hnd,q⟩:=hsp
 refine ⟨_,cX h0 hr2,?_⟩
 have hat : (bo X.N [T.ref a])[0]? = some (some (.ref a)):=rfl
 have hlen : (bo X.N [T.ref a]).length = X.N.length:=by
  unfold bo
  rw [List.length_append,List.length_map,List.length_replicate]
  show 1 + (X.N.length - 1) = X.N.length
  omega
 simp only [iW,qE,kX,dD,cr,ef hat]
 refine ⟨trivial,a,rfl,hnd,fun d hd => ?_⟩
 simp only [lO,fe,jO]
 refine ⟨Nat.zero_le _,fun p hp => ?_⟩
 show ∃ G0,Sub G0 (gup (gup G d (.drw 0)) p (.lst [])) /\ gQ X.N.length ⟨[],none⟩ vs (gj Φ) (((bo X.N [T.ref a]).set 1 (some (.ref d))).set 2 (some (.ref p))) G0
 have g0 : VRel ⟨X.N.length,⟨[],none⟩,(bo X.N [T.ref a]).set 1 (some (.ref d)),G⟩ aB (fun i => if i = 1 then one d (.drw 0) else aB) ((bo X.N [T.ref a]).set 1 (some (.ref d))) (gup G d (.drw 0)) (ye a):=by
  refine ⟨?_,fun i hi => rfl,fun a o e => (by cases e),Sub.gup hd,fun a e => absurd rfl e,fun i a o e => ?_,fun i b e => ⟨rfl,?_⟩,fun i j b hij e => ?_,fun i c e => ?_,Io.ok0⟩
  . rw [List.length_set,hlen]
  . split at e
    . obtain ⟨rfl,rfl⟩:=gq e; exact aH
    . cases e
  . split at e
    . rw [fP e]; exact hd
    . exact absurd rfl e
  . split at e
    . rename_i z
      rw [if_neg (fun y => hij (by rw [z,y]))]
      rfl
    . exact absurd rfl e
  . match i,e with
    | 0,e => cases e; exact ⟨.ref a,rfl,rfl⟩
    | 1,e =>
     cases e
     exact ⟨.ref d,List.getElem?_set_self (by rw [hlen]; omega),by rw [if_pos rfl]; exact ⟨d,rfl,rfl⟩⟩
 have hGp : G p = none:=by
  cases z : G p with
  | none => rfl
  | some o => rw [Sub.gup (o:=.drw 0) hd _ _ z] at hp; cases hp
 have hpd : p ≠ d:=fun z => by rw [z,aH] at hp; cases hp
 have g1:=(g0.grow (Sub.gup (o:=.lst []) hp)).put (H:=one p (.lst [])) (j:=2) (t:=.ref p) (c:=.ow (.lst [])) ⟨fun b o e => by obtain ⟨rfl,rfl⟩:=gq e; exact aH,fun b e => by rw [fP e]; exact ⟨rfl,hGp⟩,fun b i e => by
  rw [fP e]
  show (if i = 1 then one d (.drw 0) else aB) p = none
  split
  . cases z : one d (O.drw 0) p with
    | none => rfl
    | some o => obtain ⟨z,_⟩:=gq z; exact absurd z hpd
  . rfl⟩ (by show 2 < X.N.length; omega) (fun z => by cases z) ⟨p,[],rfl,rfl,.nil⟩
 refine ⟨_,Sub.refl _,⟨_,_⟩,aB,_,_,mF,g1,hv,?_⟩
 refine ⟨fun _ _ _ _ _ q => q.elim,fun r σ' F' own' S' G' t hr x g r' => ?_,fun _ _ _ _ _ q => q.elim,fun _ _ _ _ _ q => q.elim⟩
 obtain rfl : t = .bl true:=g.rdV r' hr
 exact cI.sub (Sub.trans g.frs (Sub.refl _)) q
theorem abS (F : Fun K x x st f fd) (S : FnScope N ps (defScope st)) (len : ps.length = 1) (hN : 3 <= N.length) (hbody : abb P w K mg base N x st f k) : FnG P w K mg base (L2.CX P w) (k + 1) f fd ps (eY K ir):=by
 refine aea F S len fun cdv A outer s H E G Φ ΦE a ns hr hg ho hn hS hsp => ?_
 obtain ⟨st0,rest,vs,eb,h0,hr2,hv⟩:=hbody cdv A outer s H E [(H,G)] a ns hr hg hn hS
 rw [eb]
 exact adl hN h0 hr2 hv hsp
end
end
noncomputable section
mutual
def cM : PV -> Bool
 | .bl _ => false
 | .tup xs => bX xs
 | .lst xs => bX xs
 | _ => true
def bX : List PV -> Bool
 | [] => true
 | x :: xs => cM x && bX xs
end
mutual
theorem yo : ∀ (p q : PV),cM p = true -> cM q = true -> bh p q = true
 | .tup xs,q,hp,hq => by
  cases q with
  | tup ys => rw [bh]; exact tA xs ys (by simpa [cM] using hp) (by simpa [cM] using hq)
  | _ => simp [bh]
 | .lst xs,q,hp,hq => by
  cases q with
  | lst ys => rw [bh]; exact tA xs ys (by simpa [cM] using hp) (by simpa [cM] using hq)
  | _ => simp [bh]
 | .bl _,q,hp,hq => by simp [cM] at hp
 | .non,q,hp,hq => by cases q <;> simp [bh]
 | .int _,q,hp,hq => by cases q <;> first | (simp [cM] at hq; done) | simp [bh]
 | .str _,q,hp,hq => by cases q <;> simp [bh]
 | .ty _,q,hp,hq => by cases q <;> simp [bh]
 | .dic _,q,hp,hq => by cases q <;> simp [bh]
 | .ins _ _,q,hp,hq => by cases q <;> simp [bh]
 | .exc _ _ _,q,hp,hq => by cases q <;> simp [bh]
 | .lam _,q,hp,hq => by cases q <;> simp [bh]
 | .dicN _,q,hp,hq => by cases q <;> simp [bh]
theorem tA : ∀ (l m : List PV),bX l = true -> bX m = true -> eQ l m = true
 | [],m,_,_ => by cases m <;> simp [eQ]
 | x :: xs,[],_,_ => by simp [eQ]
 | x :: xs,y :: ys,hl,hm => by
  simp only [bX,Bool.and_eq_true] at hl hm
  rw [eQ,yo x y hl.1 hm.1,tA xs ys hl.2 hm.2]
  rfl
end
theorem lf {l : List PV} : bX l = true ↔ ∀ p ∈ l,cM p = true:=by
 induction l with
 | nil => simp [bX]
 | cons x xs ih => simp [bX,ih]
theorem aaz (n : Nd) : cM (aj n) = true:=by
 have nx : ∀ l : List Nat,cM (de l) = true:=fun l => by
  unfold de
  rw [cM]
  refine lf.mpr fun p hp => ?_
  obtain ⟨i,_,rfl⟩:=List.mem_map.mp hp
  rfl
 cases n <;> simp [aj,cM,bX,nx]
theorem abP : ∀ a b : Nd,aj a = aj b -> a = b:=by
 have nx : ∀ l m : List Nat,de l = de m -> l = m:=fun l m h => by
  unfold de at h
  injection h with h
  exact (List.map_inj_right (f:=fun i : Nat => PV.int ((i : Nat) : Int)) fun x y e => by injection e with e; exact Int.ofNat.inj e).mp h
 have w : (Str.ofString "touch" : Str) ≠ Str.ofString "call":=by decide
 intro a b h
 cases a <;> cases b <;> simp only [aj,PV.tup.injEq,List.cons.injEq,PV.str.injEq,and_true,true_and,reduceCtorEq,and_false,false_and] at h
 all_goals first
  | rfl
  | (rw [nx _ _ h])
  | (rw [h.1,nx _ _ h.2])
  | exact absurd h.1 w
  | exact absurd h.1.symm w
theorem aec : ∀ {a b : List Nd},a.map aj = b.map aj -> a = b:=fun {a b} h => (List.map_inj_right (f:=aj) abP).mp h
def dV (h : List PV -> PV) (ps : Parts) : List (Key × PV):=ps.map fun q => (.inr q.1,h (q.2.map aj))
theorem wZ {ps : Parts} : ap ps = dV .lst ps:=rfl
theorem xA {ps : Parts} : aX ps = dV .tup ps:=rfl
theorem tQ {h : List PV -> PV} : ∀ {ps : Parts} {n : Str},aV (dV h ps) (.inr n) = (ps.lookup n).map fun l => h (l.map aj)
 | [],n => rfl
 | (m,l) :: ps,n => by
  show (if (Sum.inr m : Key) = Sum.inr n then some (h (l.map aj)) else aV (dV h ps) (.inr n)) = _
  rw [List.lookup_cons]
  by_cases e : m = n
  . subst e
    rw [if_pos rfl,beq_self_eq_true]
    rfl
  . rw [if_neg (fun z => e (Sum.inr.inj z)),show (n == m) = false from beq_eq_false_iff_ne.mpr fun z => e z.symm]
    exact tQ
theorem ut {h : List PV -> PV} (hi : ∀ x y,h x = h y -> x = y) {ps qs : Parts} (hp : (ps.map (·.1)).Nodup) (hq : (qs.map (·.1)).Nodup) : dC (dV h ps) (dV h qs) = true ↔ ∀ n,ps.lookup n = qs.lookup n:=by
 unfold dC
 rw [Bool.and_eq_true,beq_iff_eq,List.all_eq_true]
 have hl : ∀ ps,(dV h ps).length = (ps.map (·.1)).length:=fun ps => by simp [dV]
 rw [hl,hl]
 have key : (∀ p ∈ dV h ps,decide (aV (dV h qs) p.1 = some p.2) = true) ↔ ∀ n l,ps.lookup n = some l -> qs.lookup n = some l:=by
  constructor
  . intro a n l e
    have:=of_decide_eq_true (a (.inr n,h (l.map aj)) (List.mem_map.mpr ⟨(n,l),ew e,rfl⟩))
    rw [tQ] at this
    obtain ⟨l2,e2,e3⟩:=Option.map_eq_some_iff.mp this
    rw [e2,aec (hi _ _ e3)]
  . intro a p hm
    obtain ⟨⟨n,l⟩,hm2,rfl⟩:=List.mem_map.mp hm
    refine decide_eq_true ?_
    rw [tQ,a n l (dH hp hm2)]
    rfl
 rw [key]
 have sub : (∀ n l,ps.lookup n = some l -> qs.lookup n = some l) -> ∀ n ∈ ps.map (·.1),n ∈ qs.map (·.1):=fun a n hn => by
  obtain ⟨l,e,_⟩:=dW hn
  exact List.mem_map.mpr ⟨_,ew (a n l e),rfl⟩
 constructor
 . rintro ⟨e,a⟩ n
   cases z : ps.lookup n with
   | some l => exact (a n l z).symm
   | none =>
    cases y : qs.lookup n with
    | none => rfl
    | some l =>
     have hn : n ∈ qs.map (·.1):=List.mem_map.mpr ⟨_,ew y,rfl⟩
     have : n ∈ ps.map (·.1):=by
      refine Classical.byContradiction fun hno => ?_
      have h1:=jU (S:=n :: ps.map (·.1)) (T:=qs.map (·.1)) (List.nodup_cons.mpr ⟨hno,hp⟩) fun y hy => by
       rcases List.mem_cons.mp hy with rfl | hy
       . exact hn
       . exact sub a y hy
      rw [List.length_cons] at h1
      omega
     obtain ⟨l2,e2,_⟩:=dW this
     rw [z] at e2
     cases e2
 . intro a
   refine ⟨?_,fun n l e => by rw [<- a]; exact e⟩
   exact ((List.perm_ext_iff_of_nodup hp hq).mpr fun n => ⟨sub (fun n l e => by rw [<- a]; exact e) n,fun hn => by
    obtain ⟨l,e,_⟩:=dW hn
    rw [<- a] at e
    exact List.mem_map.mpr ⟨_,ew e,rfl⟩⟩).length_eq
theorem GoodParts.nameL {ps : Parts} (g : GoodParts ps) : ∀ s ∈ ps.map (·.1),bU s:=fun s hs => by
 obtain ⟨q,hq,rfl⟩:=List.mem_map.mp hs
 exact g.name q hq
theorem yK {ps : Parts} (g : GoodParts ps) {h : List PV -> PV} (ho : ∀ l,au (h l) = cC l) (hd : ∀ l,aJ (h l) = cE l + 1) : ∀ p ∈ dV h ps,au p.2 = true /\ aJ p.2 <= 64:=fun p hp => by
 obtain ⟨q,hq,rfl⟩:=List.mem_map.mp hp
 have hn : ∀ n ∈ q.2,_:=fun n hn => jX (g.ok q hq n hn) g.nameL
 refine ⟨?_,?_⟩
 . show au (h (q.2.map aj)) = true
   rw [ho]
   refine gO.mpr fun p hp => ?_
   obtain ⟨n,h,rfl⟩:=List.mem_map.mp hp
   exact (hn n h).1
 . show aJ (h (q.2.map aj)) <= 64
   rw [hd]
   have : cE (q.2.map aj) <= 10:=gB fun p hp => by
    obtain ⟨n,h,rfl⟩:=List.mem_map.mp hp
    exact (hn n h).2
   omega
theorem xD {ps qs : Parts} (g : GoodParts ps) (g' : GoodParts qs) {h : List PV -> PV} (ho : ∀ l,au (h l) = cC l) (hd : ∀ l,aJ (h l) = cE l + 1) (hn : ∀ l,cM (h l) = bX l) : DOk (dV h ps) (dV h qs):=by
 refine ⟨yK g ho hd,yK g' ho hd,fun p hp q hq e => ?_⟩
 have nb : ∀ ps : Parts,∀ p ∈ dV h ps,cM p.2 = true:=fun ps p hp => by
  obtain ⟨q,hq,rfl⟩:=List.mem_map.mp hp
  show cM (h (q.2.map aj)) = true
  rw [hn]
  refine lf.mpr fun x hx => ?_
  obtain ⟨n,_,rfl⟩:=List.mem_map.mp hx
  exact aaz n
 exact yo _ _ (nb ps p hp) (nb qs q hq)
theorem t9 {ps qs : Parts} (g : GoodParts ps) (g' : GoodParts qs) : DOk (aX ps) (aX qs):=xD (h:=.tup) g g' (fun l => by rw [au]) (fun l => by rw [aJ]) fun l => by rw [cM]
theorem zR {ps qs : Parts} (g : GoodParts ps) (g' : GoodParts qs) : DOk (ap ps) (ap qs):=xD (h:=.lst) g g' (fun l => by rw [au]) (fun l => by rw [aJ]) fun l => by rw [cM]
theorem zT {ps qs : Parts} (g : GoodParts ps) (g' : GoodParts qs) {ys zs : List Str} (hy : ys.Perm (ps.map (·.1))) (hz : zs.Perm (qs.map (·.1))) : dC (aX (aC ps ys)) (aX (aC qs zs)) = dC (ap qs) (ap ps):=by
 rw [Bool.eq_iff_iff]
 rw [xA,xA,ut (fun x y e => PV.tup.inj e) (by rw [fh]; exact hy.nodup_iff.mpr g.nd) (by rw [fh]; exact hz.nodup_iff.mpr g'.nd)]
 rw [wZ,wZ,ut (fun x y e => PV.lst.inj e) g'.nd g.nd]
 constructor
 . intro h n
   have:=h n
   rw [km g.nd hy,km g'.nd hz] at this
   exact this.symm
 . intro h n
   rw [km g.nd hy,km g'.nd hz]
   exact (h n).symm
theorem abT {ps : Parts} (g : GoodParts ps) : dC (aX ps) (aX ps) = true:=(ut (h:=.tup) (fun x y e => PV.tup.inj e) g.nd g.nd).mpr fun _ => rfl
theorem acq {ps qs : Parts} (hp : (ps.map (·.1)).Nodup) (hq : (qs.map (·.1)).Nodup) (h : ∀ q,q ∈ qs ↔ q ∈ ps) (n : Str) : qs.lookup n = ps.lookup n:=by
 cases z : ps.lookup n with
 | some l => exact dH hq ((h _).mpr (ew z))
 | none =>
  cases y : qs.lookup n with
  | none => rfl
  | some l =>
   have:=dH hp ((h _).mp (ew y))
   rw [z] at this
   cases this
theorem vH {ps qs : Parts} (h : ∀ n,qs.lookup n = ps.lookup n) (ys : List Str) : aC qs ys = aC ps ys:=by
 unfold aC
 exact List.map_congr_left fun n _ => by rw [h]
theorem aeU {ps : Parts} (g : GoodParts ps) {zs ys : List Str} (hz : zs.Perm (ps.map (·.1))) : aC (aC ps zs) ys = aC ps ys:=vH (fun n => km g.nd hz) ys
theorem adq {ps : Parts} (g : GoodParts ps) (ys : List Str) : aC ps.reverse ys = aC ps ys :=
 vH (acq g.nd (by rw [List.map_reverse]; exact (List.reverse_perm _).nodup_iff.mpr g.nd) fun q => List.mem_reverse) ys
theorem tL {ps : Parts} (g : GoodParts ps) : GoodParts ps.reverse:=by
 have hm : ∀ s,s ∈ ps.reverse.map (·.1) ↔ s ∈ ps.map (·.1):=fun s => by rw [List.map_reverse,List.mem_reverse]
 refine ⟨by rw [List.map_reverse]; exact (List.reverse_perm _).nodup_iff.mpr g.nd,by rw [List.length_reverse]; exact g.len,(hm _).mpr g.main,fun q hq => g.name q (List.mem_reverse.mp hq),fun q hq => g.nodes q (List.mem_reverse.mp hq),fun q hq n hn => ?_,?_⟩
 . have:=g.ok q (List.mem_reverse.mp hq) n hn
   cases n with
   | fin => trivial
   | skip nx => exact this
   | touch b nx => exact this
   | call f nx => exact ⟨(hm _).mpr this.1,this.2⟩
 . obtain ⟨S,h1,h2⟩:=g.few
   refine ⟨S,h1,fun b hb => h2 b ?_⟩
   obtain ⟨q,hq,hb⟩:=List.mem_flatMap.mp hb
   exact List.mem_flatMap.mpr ⟨q,List.mem_reverse.mp hq,hb⟩
theorem wK : ∀ kvs : List (Key × PV),fK (kvs.map Vl.i7) = some kvs
 | [] => rfl
 | (k,v) :: r => by
  have:=wK r
  cases k <;> simp only [List.map_cons,Vl.i7,kP,fK,dU,this]
theorem abe {ps : Parts} (g : GoodParts ps) : fK ((ap ps).map Vl.i7).reverse = some (ap ps.reverse) /\ gG [] (ap ps.reverse) = ap ps.reverse:=by
 refine ⟨?_,?_⟩
 . rw [<- List.map_reverse]
   have : (ap ps).reverse = ap ps.reverse:=by rw [ap,ap,List.map_reverse]
   rw [this]
   exact wK _
 . exact tK (tL g).nd
theorem wM : ∀ ps : Parts,fK (ps.map fun q => PV.tup [.str q.1,.tup (q.2.map aj)]) = some (bI (fun _ => false) ps)
 | [] => rfl
 | q :: ps => by
  simp only [List.map_cons,fK,dU,wM ps]
  rfl
theorem ach {k : Str -> Bool} {ps : Parts} (h : (ps.map (·.1)).Nodup) : gG [] (bI k ps) = bI k ps:=by
 rw [rO _ _ (by rw [List.nil_append,mj]; exact zS h),List.nil_append]
def je (ps : Parts) (f : List PV -> PV) : PV -> PV
 | .str n => .tup [.str n,f (((ps.lookup n).getD []).map aj)]
 | x => x
theorem vM {ps : Parts} (f : List PV -> PV) (zs : List Str) : (zs.map PV.str).map (je ps f) = (aC ps zs).map fun q => PV.tup [.str q.1,f (q.2.map aj)]:=by
 rw [aC,List.map_map,List.map_map]
 rfl
end
noncomputable section
theorem afq (V : Env K mg base aN az aw ai) : KnI P w K mg base 6 "Program" ai (vR ai) [] :=
 vF V.d_Program_init kc (by rintro ts G Φ ΦE ⟨x,d,ps,k,ad,rfl,_⟩; rfl) (aek V)
def oh (k : Str -> Bool) (ps : Parts) : Gp -> T -> Prop:=fun H t => ∃ d ad,t = .ref d /\ LsG k ps ad d H
def yF : Gp -> T -> Prop:=fun H t => ∃ d kvs,t = .ref d /\ H d = some (.dic kvs) /\ kvs.length <= 6
theorem acx {fx : Fx} {F G G' : Gp} {own : Nat -> Gp} {S : S2} {σ : SV} {D : Addr} {ps : Parts} {ad : Str -> Addr} {j : Nat} (g : VRel fx F own S G σ) (nl : NewL G G' ps ad) (hD : G' D = some (.dic (ps.map fun q => (.str q.1,.ref (ad q.1))))) (hGD : G D = none) (hj : j < fx.N) (hio : j ∉ fx.io) :
 ∃ own',VRel fx F own' (S.set j (some (.ref D))) G' (ac σ j (some (.ab (oh (fun _ => true) ps)))):=by
 let P : Addr -> Prop:=fun b => b = D \/ ∃ m,m ∈ ps.map (·.1) /\ ad m = b
 have hP : ∀ b,P b -> G b = none:=fun b h => by
  rcases h with rfl | ⟨m,hm,rfl⟩
  . exact hGD
  . exact nl.new m hm
 have inP : ∀ b,d9 P G' aB b ≠ none -> P b:=fun b h => Classical.byContradiction fun z => h (by rw [iB z]; rfl)
 refine ⟨_,(g.grow nl.sub).put (H:=d9 P G' aB) (t:=.ref D) (c:=.ab (oh (fun _ => true) ps)) ⟨fun b o e => ?_,fun b e => ?_,fun b i e => ?_⟩ hj hio ⟨D,ad,rfl,⟨?_,fun q hq _ => ?_⟩⟩⟩
 . have:=inP b (by rw [e]; simp)
   rw [i5 this] at e
   exact e
 . have h:=hP b (inP b e)
   constructor
   . cases z : F b with
     | none => rfl
     | some o => have:=g.sub _ _ z; rw [h] at this; cases this
   . cases z : fx.Fr b with
     | none => rfl
     | some o => have:=g.frs _ _ z; rw [h] at this; cases this
 . have h:=hP b (inP b e)
   cases z : own i b with
   | none => rfl
   | some o => have:=g.owG i _ _ z; rw [h] at this; cases this
 . rw [i5 (P:=P) (.inl rfl)]
   exact hD
 . rw [i5 (P:=P) (.inr ⟨_,List.mem_map_of_mem hq,rfl⟩)]
   exact nl.ls q hq
theorem wI {F : Gp} : ∀ {ps : Parts} {ts : List (T × T)} {ad : Str -> Addr},RpD F ts (bI (fun _ => false) ps) -> ts = ps.map fun q => (.str q.1,df false (ad q.1) (q.2.map bz))
 | [],_,ad,.nil => rfl
 | q :: ps,_,ad,h => by
  have h : RpD F _ ((.inr q.1,.tup (q.2.map aj)) :: bI (fun _ => false) ps):=h
  cases h with
  | cons h r =>
   cases h with
   | tup h =>
    rw [wI (ad:=ad) r,sY h]
    rfl
def qk (ps : Parts) (c : Cell) : Prop:=c = .ab (oh (fun _ => true) ps) \/ c = .ow (.dic (bI (fun _ => false) ps))
theorem yn {fx : Fx} {F G : Gp} {own : Nat -> Gp} {S : S2} {σ : SV} {ps : Parts} {j : Nat} {c : Cell} (g : VRel fx F own S G σ) (h : σ j = some c) (hc : qk ps c) : ∃ d k ad,S[j]? = some (some (.ref d)) /\ LsG k ps ad d (own j):=by
 obtain ⟨t,e,r⟩:=g.cell j _ h
 rcases hc with rfl | rfl
 . obtain ⟨d,ad,rfl,hg⟩:=r
   exact ⟨d,_,ad,e,hg⟩
 . obtain ⟨a,ts,rfl,ho,hr⟩:=(r : Ow F (own j) t (.dic (bI (fun _ => false) ps)))
   refine ⟨a,fun _ => false,fun _ => a,e,⟨?_,fun q hq z => by cases z⟩⟩
   rw [ho,wI (ad:=fun _ => a) hr,bL]
theorem abm {fx : Fx} {F G G' : Gp} {own : Nat -> Gp} {S : S2} {σ : SV} {C x pd : Addr} {pr : Parts} {j : Nat} (g : VRel fx F own S G σ) (hx : G x = none) (hpd : gup G x (.ins C []) pd = none) (h1 : G' x = some (.ins C [("parts",.ref pd)])) (h2 : G' pd = some (.dic (fD pr))) (hk : ∀ b o,b ≠ x -> gup G x (.ins C []) b = some o -> G' b = some o) (hj : j < fx.N) (hio : j ∉ fx.io) :
 ∃ F',Ext F F' /\ VRel fx F' own (S.set j (some (.ref x))) G' (ac σ j (some (.fr (aA C pr)))):=by
 have hpx : pd ≠ x:=fun z => by rw [z,aH] at hpd; cases hpd
 rw [ao hpx] at hpd
 have sG : Sub G G':=fun b o e => hk b o (fun z => by rw [z,hx] at e; cases e) (by rw [ao (fun z => by rw [z,hx] at e; cases e)]; exact e)
 let P : Addr -> Prop:=fun b => b = x \/ b = pd
 have sF : Sub F (d9 P G' F):=fun a o e => by
  rw [iB (fun z => by
   have:=g.sub _ _ e
   rcases z with rfl | rfl
   . rw [hx] at this; cases this
   . rw [hpd] at this; cases this)]
  exact e
 refine ⟨d9 P G' F,⟨sF⟩,qN g (by rw [List.length_set]) (fun i hi => by rw [List.getElem?_set_ne (fun z => hio (by rw [z]; exact hi))]) sG sF (fun a o e => ?_) (fun a h1 h2 => ?_) fun i c e => ?_⟩
 . by_cases z : P a
   . rw [i5 z] at e; exact e
   . rw [iB z] at e; exact sG _ _ (g.sub _ _ e)
 . by_cases z : P a
   . rcases z with rfl | rfl
     . exact hx
     . exact hpd
   . rw [iB z] at h1; exact absurd h2 h1
 . by_cases z : i = j
   . subst z
     rw [cf,if_pos rfl] at e
     cases e
     refine .inr ⟨.ref x,_,List.getElem?_set_self (by rw [g.len]; exact hj),rfl,?_⟩
     exact .ins (by rw [i5 (P:=P) (.inl rfl)]; exact h1) (.cons (.dic (by unfold aG; rw [i5 (P:=P) (.inr rfl),h2]) (rC _)) .nil)
   . rw [cf,if_neg z] at e
     exact .inl ⟨e,by rw [List.getElem?_set_ne (fun y => z y.symm)]⟩
def mh (M G : Gp) : Gp:=fun b => match M b with
 | none => none
 | some _ => G b
theorem xR {fx : Fx} {F G G' : Gp} {own : Nat -> Gp} {S S' : S2} {σ σ' : SV} {i : Nat} {t : T} {c : Cell} (g : VRel fx F own S G σ) (hl : S'.length = S.length) (hp : ∀ i ∈ fx.io,S'[i]? = S[i]?) (hS : ∀ j c,σ' j = some c -> σ j = some c /\ S'[j]? = S[j]?)
 (hG : ∀ b o,G b = some o -> own i b = none -> G' b = some o) (hi : S'[i]? = some (some t)) (r : bu F (mh (own i) G') t c) : VRel fx F (ec own i (mh (own i) G')) S' G' (ac σ' i (some c)):=by
 have g1 : VRel fx F own S' G σ':=qN g hl hp (Sub.refl _) (Sub.refl _) g.sub (fun a h1 h2 => absurd h2 h1) fun j c e => .inl (hS j c e)
 refine zL g1 hG (fun b o e => ?_) (fun b e => ?_) ⟨t,hi,r⟩
 . unfold mh at e
   split at e
   . cases e
   . exact e
 . unfold mh at e
   split at e
   . exact absurd rfl e
   . rename_i o z
     exact .inl (by rw [z]; simp)
end
noncomputable section
theorem yM {a b : Bool} : Cmp (.bl a) (.bl b):=.inl rfl
def lJ : List Str:=["a","b","c","zzzzzzzz"]
theorem ac2 : ∀ s ∈ lJ,bU s:=by
 intro s hs
 simp only [lJ,List.mem_cons,List.not_mem_nil,or_false] at hs
 rcases hs with rfl | rfl | rfl | rfl <;> exact nR (by decide +kernel)
structure Mk (m : Parts × List Str) : Prop where
 g : GoodParts m.1
 p : m.2.Perm (m.1.map (·.1))
 s : PyProof.Rows.sortedS m.2 = true
def mr (C : Addr) (m : Parts × List Str) : PV:=.tup [aA C (aC m.1 m.2),.dic (ap m.1)]
structure St (C : Addr) (n : Nat) (ms : List (Parts × List Str)) (τ : SV) : Prop where
 d : τ 1 = some (.ab (drw n))
 m : τ 2 = some (.ow (.lst (ms.map (mr C))))
theorem ci : FnScope ["_law_script","_law_draw","_law_made","_law_turn","_law_parts_here","_law_handed","_law_name","_law_lists","_law_program","_law_row","_law_other","_law_one"] ["_law_script"] (defScope (top 31)):=⟨rfl,rfl,rfl,by decide +kernel,rfl,by decide +kernel,by decide +kernel⟩
theorem law_fn {f : Addr} {fd : FuncData} (F : Fun K "law" "law" (top 31) f fd) (V : Env K mg base aN az aw ai) : FnG P w K mg base (L2.CX P w) 60 f fd ["_law_script"] (eY K ir):=by
 refine abS F ci rfl (by decide) fun cdv A outer s H E en a ns hr hg hn hS => ⟨_,_,_,rfl,(yy (j:=1) (k:=2) rfl ci.nd rfl rfl (by decide) rfl rfl (ea_cons (acX (adL V) hn hS (hr.mono (by decide)) (aa 0)) (ea_cons (kJ ea_nil) ea_nil)) rfl),(aF (fM (passes_of rfl) rfl (mH (fun _ h => lG rfl V.b_range h) (ae aD ah)) (bD (j:=3) ci.nd rfl (by first | exact .inl rfl | exact .inr rfl)) (aF (eP (j:=4) ci.nd rfl (by first | exact .inl rfl | exact .inr rfl) (ev_call (fun _ => .nil) (fun _ h => aY (aaQ V) (hr.mono (by decide)) h) (ae (ev_var (aa 1)) (ae aD (ae aD (ae (sV (dv (ae bR (ae bR (ae bR (ae bR ah))))) tm (qY (ev_op (fun _ _ h k => bZ gb h k) jV aD (ev_call (fun _ => .nil) (fun _ h => aY (fS V) (hr.mono (by decide)) h) (ae (ev_var (aa 1)) (ae aD ah)))))) ah)))))) (aF (eP (j:=5) ci.nd rfl (by first | exact .inl rfl | exact .inr rfl) (ev_cb (fun _ h => ke V.b_dict h) om (ae (jx [("_law_name",6)] ci.nd (eC (ev_call (fun _ => .nil) (fun _ h => aY (wa V) (hr.mono (by decide)) h) (ae (ev_var (aa 1)) (ae (ev_cb (fun _ h => iS V.b_sorted h) jY (ae (ev_var (aa 4)) ah)) ah)))) (fun _ _ _ _ _ => (bD (j:=6) ci.nd rfl (by first | exact .inl rfl | exact .inr rfl))) (fun _ _ _ _ _ => jn) (fun _ _ _ _ _ => (eV (ae (ev_var (aa 6)) (ae (ev_op (fun _ _ h k => aE hr.u9 h k (fun _ _ => rfl)) aS (ev_var (aa 4)) (ev_var (aa 6))) ah)))) eG) ah))) (aF (oI (fu (j:=7) ci.nd rfl (by first | exact .inl rfl | exact .inr rfl) (ke V.b_dict (ea_cons (tZ (tM (jq [("_law_name",6)] ci.nd (gh (aa 5)) (fun _ _ _ _ _ => (gm (j:=6) ci.nd rfl (by first | exact .inl rfl | exact .inr rfl))) (fun _ _ _ _ _ => jr) (fun _ _ _ _ _ => (eJ (ea_cons (aa 6) (ea_cons (gY V.b_list (ea_cons (aE hr.u9 (aa 5) (aa 6) (fun _ _ => rfl)) ea_nil)) ea_nil)))))) (jq [("_law_name",6)] ci.nd (gh (aa 5)) (fun _ _ _ _ _ => (gm (j:=6) ci.nd rfl (by first | exact .inl rfl | exact .inr rfl))) (fun _ _ _ _ _ => jr) (fun _ _ _ _ _ => (eJ (ea_cons (aa 6) (ea_cons (gY V.b_list (ea_cons (aE hr.u9 (aa 5) (aa 6) (fun _ _ => rfl)) ea_nil)) ea_nil)))))) ea_nil)))) (aF (bq (bv (fun _ _ h k => aT (dA hr.u64) h k) d6.v (ev_call (fun _ => .nil) (fun _ h => aY (fS V) (hr.mono (by decide)) h) (ae (ev_var (aa 1)) (ae aD ah))) aD) (aq (eP (j:=7) ci.nd rfl (by first | exact .inl rfl | exact .inr rfl) (ev_cb (fun _ h => ke V.b_dict h) om (ae (ym [("_law_name",6)] uZ ci.nd (aa 5) (fun _ _ _ _ _ => (bD (j:=6) ci.nd rfl (by first | exact .inl rfl | exact .inr rfl))) (fun _ _ _ _ _ => jn) (fun _ _ _ _ _ => (eV (ae (ev_var (aa 6)) (ae (ev_cb (fun _ h => gA V.b_tuple h) gZ (ae (ev_op (fun _ _ h k => aE hr.u9 h k (fun _ _ => rfl)) aS (ev_var (aa 5)) (ev_var (aa 6))) ah)) ah)))) eG) ah)))) bB) (aF (oI (fu (j:=8) ci.nd rfl (by first | exact .inl rfl | exact .inr rfl) (mP (afq V) (hr.mono (by decide)) (ea_cons (aa 7) ea_nil)))) (aF (bq (bM (ck (ev_call (fun _ => .nil) (fun _ h => aY (qA V) (hr.mono (by decide)) h) (ae (ev_var (aa 8)) (ae (ev_var (aa 4)) ah))))) (aq (aZ cA)) bB) (aF (oI (pW (passes_of rfl) rfl (gh (ac9 V.b_list (ea_cons (aa 7) ea_nil))) (gm (j:=6) ci.nd rfl (by first | exact .inl rfl | exact .inr rfl)) (cX (fu (j:=9) ci.nd rfl (by first | exact .inl rfl | exact .inr rfl) (aE hr.u9 (aa 7) (aa 6) (fun _ _ => rfl))) (ei (s_if (yX (dT V.b_isinstance (ea_cons (aa 9) (ea_cons (dE rfl V.b_list rfl) ea_nil)))) (ei (pQ (fX (aa 9) (ea_cons (eJ (ea_cons bQ ea_nil)) ea_nil)))) j8))))) (aF (oI (ka hr.u9 (aa 7) bQ (kJ (ea_cons (eJ (ea_cons bQ ea_nil)) ea_nil)))) (aF (bq (bM (ck (ev_call (fun _ => .nil) (fun _ h => aY (qA V) (hr.mono (by decide)) h) (ae (ev_var (aa 8)) (ae (ev_var (aa 4)) ah))))) (aq (aZ cA)) bB) (aF (eP (j:=10) ci.nd rfl (by first | exact .inl rfl | exact .inr rfl) (ev_call (fun _ => .nil) (fun _ h => aY (acP V) (hr.mono (by decide)) h) (ae (ev_var (aa 1)) (ae (ev_var (aa 4)) ah)))) (aF (bq (dh (cY (bv (fun _ _ h k => aT (eh hr.u64) h k) fy.v (yL (fun _ _ h k => fL (abK (mQ V) (hr.mono (by decide))) h k) aaM (ev_var (aa 8)) (rY (fun _ => .nil) (fun _ h => mP (uV V) (hr.mono (by decide)) h) (ae (ev_var (aa 10)) ah))) (ev_op (fun _ _ h k => fL (uQ hr.u65) h k) qB (ev_var (aa 10)) (ev_var (aa 4)))) (dI (bv (fun _ _ h k => aT (dA hr.u64) h k) d6.v (yL (fun _ _ h k => fL (yd (mQ V) V.ne_Program (hr.mono (by decide))) h k) yS (ev_var (aa 8)) (rY (fun _ => .nil) (fun _ h => mP (uV V) (hr.mono (by decide)) h) (ae (ev_var (aa 10)) ah))) (ev_op (fun _ _ h k => fL (uQ hr.u65) h k) qB (ev_var (aa 10)) (ev_var (aa 4))))))) (aq (aZ cA)) bB) (aF (bq (wG (fun _ _ h k => aT (yd (mQ V) V.ne_Program (hr.mono (by decide))) h k) yS (ev_var (aa 8)) (rY (fun _ => .nil) (fun _ h => mP (uV V) (hr.mono (by decide)) h) (ae (ev_cb (fun _ h => ke V.b_dict h) om (ae (aey (abW (fun _ h => aeF V.b_list h) (ev_var (aa 4)))) ah)) ah))) (aq (aZ cA)) bB) (aF (bq (bv (fun _ _ h k => aT (eh hr.u64) h k) fy.v (jx [("_law_one",11)] ci.nd (eC (dv (ae (ev_var (aa 4)) (ae adZ (ae aD ah))))) (fun _ _ _ _ _ => (bD (j:=11) ci.nd rfl (by first | exact .inl rfl | exact .inr rfl))) (fun _ _ _ _ _ => (lw (wG (fun _ _ h k => aT (aaP (mQ V) V.st_Program (hr.mono (by decide))) h k) acf (ev_var (aa 8)) (ev_var (aa 11))))) (fun _ _ _ _ _ => (ev_var (aa 11))) eG) (dv ah)) (aq (aZ cA)) bB) (aq (eE (fG (i:=2) (fun _ h => fX (aa 2) h) iF (ae (eV (ae (ev_var (aa 8)) (ae (ev_var (aa 4)) ah))) ah)))))))))))))))))) (aF (fM (passes_of rfl) rfl (eC (ev_var (aa 2))) (nB (n:=2) rfl (i3 (bD (j:=8) ci.nd rfl (by first | exact .inl rfl | exact .inr rfl)) (i3 (bD (j:=4) ci.nd rfl (by first | exact .inl rfl | exact .inr rfl)) oF))) (aq (bq (bM (ck (ev_call (fun _ => .nil) (fun _ h => aY (qA V) (hr.mono (by decide)) h) (ae (ev_var (aa 8)) (ae (ev_var (aa 4)) ah))))) (aq (aZ cA)) bB))) (aq (aZ cA)))),?_⟩
 have hmd : dw = 10 ^ 9:=rfl
 have hsl : sizeLine = 16777216:=sizeLine_eq
 refine a8 (M:=fun τ => ∃ ms : List (Parts × List Str),(∀ m ∈ ms,Mk m) /\ τ 2 = some (.ow (.lst (ms.map (mr ai))))) ?_ fun R hR => ?_
 . rintro τ ⟨ms,hms,e2⟩
   simp only [VVQ,e2]
   refine a8 (M:=fun _ => True) ?_ fun R hR => ?_
   . intro τ _
     simp only [VVQ]
   simp only [VVQ,e2]
   refine dP (I:=fun r τ => ∃ r' : List (Parts × List Str),r = r'.map (mr ai) /\ ∀ m ∈ r',Mk m) ?_ ?_ _ _ ⟨ms,rfl,hms⟩
   . exact fun τ _ => hR _ trivial
   rintro x r τ ⟨r',h1,h2⟩
   cases r' with
   | nil => cases h1
   | cons m r' =>
   obtain ⟨rfl,rfl⟩:=List.cons.inj h1
   have hm:=h2 m (by simp)
   refine ⟨_,rfl,fun R hR => ?_⟩
   simp only [VVQ,mr,pD]
   refine ⟨m.1,m.2,rfl,rfl,hm.g,hm.p,hm.s,?_⟩
   simp only [Bool.not_true,Bool.false_eq_true,if_false]
   exact hR _ ⟨r',rfl,fun m hm => h2 m (by simp [hm])⟩
 simp only [VVQ]
 refine ⟨⟨by decide,by decide⟩,?_⟩
 refine dP (I:=fun r τ => ∃ n ms,(∀ m ∈ ms,Mk m) /\ St ai n ms τ /\ n + 2000 * r.length <= 12000 /\ ms.length + r.length <= 6) ?_ ?_ _ _ ?_
 rotate_left 2
 . exact ⟨0,[],fun m hm => (by cases hm),⟨rfl,rfl⟩,by simp [eZ],by simp [eZ]⟩
 . rintro τ ⟨n,ms,hms,st,_,_⟩
   exact hR _ ⟨ms,hms,st.m⟩
 rintro x r τ ⟨n,ms,hms,⟨e1,e2⟩,hnr,hml⟩
 rw [List.length_cons] at hnr hml
 refine ⟨_,rfl,fun R hR => ?_⟩
 have hCn : (.inr "call" : Key) = .inr "call":=rfl
 refine a8 (M:=fun τ => ∃ (ps : Parts) (n1 : Nat),GoodParts ps /\ ng ps /\ (∀ q ∈ ps,q.2.length <= 8) /\ n1 <= n + 901 /\ St ai n1 ms τ /\ τ 4 = some (.ow (.dic (ap ps)))) ?_ fun R' hR' => ?_
 rotate_left
 . simp only [VVQ,e1,eK]
   refine ⟨by rw [hsl]; decide,n,4,rfl,rfl,⟨by decide,by decide⟩,by omega,fun t t0 t4 => ?_⟩
   obtain ⟨t,rfl⟩:=Int.eq_ofNat_of_zero_le t0
   have ht4 : t < 4:=by omega
   rw [show (1 + (t : Int)) = ((1 + t : Nat) : Int) from by omega,v9]
   simp only [wc,bt,aW]
   have hb : ([PV.str "a",PV.str "b",PV.str "c",PV.str "zzzzzzzz"] : List PV).take (1 + t) = (lJ.take (1 + t)).map PV.str:=by
    rw [List.map_take]; rfl
   rw [hb]
   refine ⟨n + 1,4,8,lJ.take (1 + t),rfl,rfl,rfl,rfl,by decide,by decide,⟨by rw [List.length_take]; show 0 < min _ 4; omega,by rw [List.length_take]; show min _ 4 <= 6; omega⟩,fun b hb => ac2 b (List.mem_of_mem_take hb),by omega,fun ps n1 hg1 _ _ h8 hb1 hn1 => ?_⟩
   exact hR' _ ⟨ps,n1,hg1,⟨lJ.take (1 + t),by rw [List.length_take]; show min _ 4 <= 5; omega,hb1⟩,h8,by omega,⟨by simp [ac],by simpa [ac] using e2⟩,by simp [ac]⟩
 clear e1 e2
 rintro τ ⟨ps,n1,hgp,hfew,hl8,hn1,⟨e1,e2⟩,e4⟩
 have hnd:=hgp.nd
 have hp6:=hgp.len.2
 refine a8 (M:=fun τ => ∃ (zs : List Str) (n2 : Nat),zs.Perm (ps.map (·.1)) /\ n2 <= n1 + 10 /\ St ai n2 ms τ /\ (τ 4 = some (.ow (.dic (ap ps))) \/ τ 4 = some (.fr (.dic (ap ps)))) /\ τ 5 = some (.ow (.dic (ap (aC ps zs))))) ?_ fun R' hR' => ?_
 rotate_left
 . simp only [VVQ,e1,e4,qG]
   refine ⟨ps.map (·.1),qX ps,by rw [List.length_map]; omega,fun ys hys hso => ?_⟩
   refine ⟨n1,_,rfl,rfl,yT fun y hy => jA (hgp.nameL y (hys.mem_iff.mp hy)),by rw [List.length_map,hys.length_eq,List.length_map]; omega,by rw [List.length_map,hys.length_eq,List.length_map]; omega,fun us hus => ?_⟩
   obtain ⟨zs,rfl,hzs⟩:=zX hus
   have hzp : zs.Perm (ps.map (·.1)):=hzs.trans hys
   have hzl : zs.length = ps.length:=by rw [hzp.length_eq,List.length_map]
   refine iw (fun _ => true) (je ps .lst) (zr (by rw [List.length_map]; omega)) (fun x hx => ?_) ?_
   . obtain ⟨z,hz,rfl⟩:=List.mem_map.mp hx
     obtain ⟨l,hl,_⟩:=dW (hzp.mem_iff.mp hz)
     refine ⟨_,rfl,fun A B hA hB => ?_⟩
     simp only [VVQ,e4,fW hl]
     have e : je ps .lst (.str z) = .tup [.str z,.lst (l.map aj)]:=by simp only [je,hl,Option.getD_some]
     rw [<- e]
     exact ⟨zr (by decide),hB rfl _ fun i hi => by
      have : i ≠ 6:=fun z => hi (by simp [z])
      simp [ac,this]⟩
   . rw [List.filter_eq_self.mpr (fun _ _ => rfl),vM,rK]
     simp only
     rw [tK (by rw [fh]; exact hzp.nodup_iff.mpr hnd)]
     exact hR' _ ⟨zs,n1 + (ys.map PV.str).length,hzp,by rw [List.length_map,hys.length_eq,List.length_map]; omega,⟨by simp [ac,ay,bt,aW],by simpa [ac,ay] using e2⟩,.inl (by simpa [ac,ay] using e4),by simp [ac,ay]⟩
 clear e1 e2 e4
 rintro τ ⟨zs,n2,hzs,hn2,⟨e1,e2⟩,e4,e5⟩
 have hgq:=iY hgp hzs
 have hq6:=hgq.len.2
 have hqn : ((aC ps zs).map (·.1)) = zs:=fh
 have hqq : ∀ ys,aC (aC ps zs) ys = aC ps ys:=fun ys => aeU hgp hzs
 have hqm : ∀ ys : List Str,ys.Perm ((aC ps zs).map (·.1)) -> ys.Perm (ps.map (·.1)):=fun ys h => by rw [hqn] at h; exact h.trans hzs
 generalize aC ps zs = qs at e5 hgq hq6 hqn hqq hqm
 refine a8 (M:=fun τ => St ai n2 ms τ /\ (τ 4 = some (.ow (.dic (ap ps))) \/ τ 4 = some (.fr (.dic (ap ps)))) /\ τ 5 = some (.ow (.dic (ap qs))) /\ τ 7 = some (.ab (oh (fun _ => true) qs))) ?_ fun R' hR' => ?_
 rotate_left
 . intro w F own S G L g k
   obtain ⟨t5,z5,a5,ts,rfl,ho5,hr5⟩:=g.cell 5 _ e5
   have hd5 : aG G a5 = some ts:=by unfold aG; rw [g.owG 5 a5 _ (by rw [ho5]; exact bL)]
   refine vU (i:=5) (j:=6) (S:=S) (Φ:=fun t G1 => L.nx (S.set 7 (some t)) G1) z5 (by decide) (by rw [g.len]; exact (show 6 < 12 by decide)) hd5 hr5 g.sub hgq fun D ad G' nl hD hGD => ?_
   obtain ⟨own',g'⟩:=acx (j:=7) g nl hD hGD (show 7 < 12 by decide) (fun z => by cases z)
   exact k.nx _ _ _ _ _ (hR' _ ⟨⟨by simpa [ac] using e1,by simpa [ac] using e2⟩,by simpa [ac] using e4,by simpa [ac] using e5,by simp [ac]⟩) .refl g'
 clear e1 e2 e4 e5
 rintro τ ⟨⟨e1,e2⟩,e4,e5,e7⟩
 refine a8 (M:=fun τ => ∃ c,St ai (n2 + 1) ms τ /\ (τ 4 = some (.ow (.dic (ap ps))) \/ τ 4 = some (.fr (.dic (ap ps)))) /\ τ 7 = some c /\ qk qs c) ?_ fun R' hR' => ?_
 rotate_left
 . simp only [VVQ,e1,eK]
   refine ⟨n2,2,rfl,rfl,⟨by decide,by decide⟩,by omega,fun t t0 t2 => ?_⟩
   simp only [VVQ,bt,aW,e5]
   refine ⟨.inl rfl,?_⟩
   by_cases ht : t = 0
   . subst ht
     simp only [decide_true,if_true]
     have hks : (ap qs).map (fun kv => kP kv.1) = (qs.map (·.1)).map PV.str:=by rw [ap,List.map_map,List.map_map]; rfl
     rw [hks]
     refine iw (fun _ => true) (je qs .tup) (zr (by rw [List.length_map,List.length_map]; omega)) (fun x hx => ?_) ?_
     . obtain ⟨z,hz,rfl⟩:=List.mem_map.mp hx
       obtain ⟨l,hl,_⟩:=dW hz
       refine ⟨_,rfl,fun A B hA hB => ?_⟩
       simp only [VVQ,fW hl]
       have e : je qs .tup (.str z) = .tup [.str z,.tup (l.map aj)]:=by simp only [je,hl,Option.getD_some]
       rw [<- e]
       exact ⟨zr (by decide),hB rfl _ fun i hi => by
        have : i ≠ 6:=fun z => hi (by simp [z])
        simp [ac,this]⟩
     . have hre : aC qs (qs.map (·.1)) = qs:=by
         rw [aC,List.map_map]
         refine (List.map_congr_left fun q hq => ?_).trans (List.map_id _)
         simp only [Function.comp,dH hgq.nd (show (q.1,q.2) ∈ qs from hq),Option.getD_some,id]
       rw [List.filter_eq_self.mpr (fun _ _ => rfl),vM,hre,wM]
       simp only
       rw [ach hgq.nd]
       exact hR' _ ⟨_,⟨by simp [ac,ay],by simpa [ac,ay] using e2⟩,by simpa [ac,ay] using e4,by simp [ac],.inr rfl⟩
   . rw [if_neg (by simp [ht])]
     exact hR' _ ⟨_,⟨by simp [ac],by simpa [ac] using e2⟩,by simpa [ac] using e4,by simpa [ac] using e7,.inl rfl⟩
 clear e1 e2 e4 e5 e7
 rintro τ ⟨c7,⟨e1,e2⟩,e4,e7,hc7⟩
 refine a8 (M:=fun τ => ∃ ys c,ys.Perm (ps.map (·.1)) /\ PyProof.Rows.sortedS ys = true /\ St ai (n2 + 1) ms τ /\ (τ 4 = some (.ow (.dic (ap ps))) \/ τ 4 = some (.fr (.dic (ap ps)))) /\ τ 7 = some c /\ qk qs c /\ τ 8 = some (.fr (aA ai (aC ps ys)))) ?_ fun R' hR' => ?_
 rotate_left
 . intro w F own S G L g k
   obtain ⟨d7,k7,ad7,z7,hls⟩:=yn g e7 hc7
   have hx0 : ∀ x,G x = none -> LsG k7 qs ad7 d7 (gup G x (.ins ai [])):=fun x hx => hls.up ((g.owG 7).trans (Sub.gup hx))
   simp only [DVQ,ef z7]
   intro x hx
   refine ⟨x,d7,qs,k7,ad7,rfl,aH,hx0 x hx,hgq,fun ys pd G' hys hso hpd h1 h2 hk => ⟨rfl,?_⟩⟩
   obtain ⟨F',x',g'⟩:=abm (j:=8) g hx hpd h1 h2 hk (show 8 < 12 by decide) (fun z => by cases z)
   rw [hqq] at g'
   exact k.nx _ _ _ _ _ (hR' _ ⟨ys,c7,hqm ys hys,hso,⟨by simpa [ac] using e1,by simpa [ac] using e2⟩,by simpa [ac] using e4,by simpa [ac] using e7,hc7,by simp [ac]⟩) x' g'
 clear e1 e2 e4 e7 hc7
 rintro τ ⟨ys,c7,hys,hso,⟨e1,e2⟩,e4,e7,hc7,e8⟩
 refine a8 (M:=fun τ => St ai (n2 + 1) ms τ /\ τ 4 = some (.fr (.dic (ap ps))) /\ τ 7 = some c7 /\ τ 8 = some (.fr (aA ai (aC ps ys)))) ?_ fun R' hR' => ?_
 rotate_left
 . rcases e4 with e4 | e4
   all_goals
    simp only [VVQ,e4,e8,pD]
    refine ⟨ps,ys,rfl,rfl,hgp,hys,hso,?_⟩
    simp only [Bool.not_true,Bool.false_eq_true,if_false]
    exact hR' _ ⟨⟨by simpa [ac] using e1,by simpa [ac] using e2⟩,by simp [ac,e4],by simpa [ac] using e7,by simpa [ac] using e8⟩
 clear e1 e2 e4 e7 e8
 rintro τ ⟨⟨e1,e2⟩,e4,e7,e8⟩
 refine a8 (M:=fun τ => St ai (n2 + 1) ms τ /\ τ 4 = some (.fr (.dic (ap ps))) /\ τ 7 = some (.ab yF) /\ τ 8 = some (.fr (aA ai (aC ps ys)))) ?_ fun R' hR' => ?_
 rotate_left
 . intro w F own S G L g k
   obtain ⟨d7,k7,ad7,z7,hls⟩:=yn g e7 hc7
   have hG:=hls.up (g.owG 7)
   have hSl : S.length = 12:=g.len
   simp only [DVQ,ef z7]
   refine ⟨d7,_,rfl,by unfold Vl.aG; rw [hG.dc],fun p hp => ?_⟩
   rw [List.map_map]
   refine xh aH ?_
   have hpo : ∀ i,own i p = none:=fun i => by
    cases z : own i p with
    | none => rfl
    | some o => have:=g.owG i _ _ z; rw [hp] at this; cases this
   refine w6 (I:=fun r S' G3 => ∃ done rest : Parts,qs = done ++ rest /\ r = rest.map (fun q => T.str q.1) /\ (S'.length = 12 /\ ∀ j,j ≠ 6 -> j ≠ 9 -> S'[j]? = S[j]?) /\ G3 p = some (.lst (qs.map fun q => T.str q.1)) /\ G3 d7 = some (.dic (qs.map fun q => (.str q.1,df (k7 q.1) (ad7 q.1) (q.2.map bz)))) /\ (∀ q ∈ qs,k7 q.1 = true -> ∃ xs,G3 (ad7 q.1) = some (.lst xs) /\ xs.length <= 12 + done.length) /\ ∀ b o,own 7 b = none -> G b = some o -> G3 b = some o) ?_ ?_ _ _ _ ?_
   . rintro S' G3 ⟨done,rest,h1,h2,⟨h3,h4⟩,h5,h6,h7,h8⟩
     refine ⟨h5,?_⟩
     have g':=xR (S':=S') (σ':=fun j => if j = 6 \/ j = 9 then none else τ j) (i:=7) (t:=.ref d7) (c:=.ab yF) g (by rw [h3,hSl]) (fun i hi => by cases hi) (fun j c e => by
      split at e
      . cases e
      . rename_i z
        exact ⟨e,h4 j (fun y => z (.inl y)) fun y => z (.inr y)⟩) (fun b o e z => h8 b o z e) (by rw [h4 7 (by decide) (by decide)]; exact z7) ⟨d7,_,rfl,by unfold mh; rw [hls.dc]; exact h6,by rw [List.length_map]; exact hq6⟩
     exact k.nx _ _ _ _ _ (hR' _ ⟨⟨by simpa [ac] using e1,by simpa [ac] using e2⟩,by simpa [ac] using e4,by simp [ac],by simpa [ac] using e8⟩) .refl g'
   . rintro t r S' G3 ⟨done,rest,h1,h2,⟨h3,h4⟩,h5,h6,h7,h8⟩
     cases rest with
     | nil => cases h2
     | cons q rest =>
     obtain ⟨rfl,rfl⟩:=List.cons.inj h2
     obtain ⟨n,l⟩:=q
     have hq : (n,l) ∈ qs:=by rw [h1]; simp
     have hdl : done.length <= 6:=by have:=congrArg List.length h1; rw [List.length_append,List.length_cons] at this; omega
     have h72 : (S'.set 6 (some (.str n)))[7]? = some (some (.ref d7)):=by rw [List.getElem?_set_ne (by decide),h4 7 (by decide) (by decide)]; exact z7
     have h66 : (S'.set 6 (some (.str n)))[6]? = some (some (.str n)):=List.getElem?_set_self (by rw [h3]; decide)
     refine ⟨h5,_,rfl,fun R2 hR2 => ?_⟩
     refine sq (M:=fun S2 G2 => S2 = (S'.set 6 (some (.str n))).set 9 (some (df (k7 n) (ad7 n) (l.map bz))) /\ G2 = G3) ?_ (fun R hR => ?_)
     rotate_left
     . simp only [DVQ,ef h72,ef h66]
       exact i6 h6 (oQ (dH hgq.nd hq)) (hR _ _ _ (Sub.refl _) ⟨rfl,rfl⟩)
     rintro S2 G2 ⟨rfl,rfl⟩
     have h99 : ((S'.set 6 (some (.str n))).set 9 (some (df (k7 n) (ad7 n) (l.map bz))))[9]? = some (some (df (k7 n) (ad7 n) (l.map bz))):=List.getElem?_set_self (by rw [List.length_set,h3]; decide)
     have hS : ((S'.set 6 (some (.str n))).set 9 (some (df (k7 n) (ad7 n) (l.map bz)))).length = 12 /\ ∀ j,j ≠ 6 -> j ≠ 9 -> ((S'.set 6 (some (.str n))).set 9 (some (df (k7 n) (ad7 n) (l.map bz))))[j]? = S[j]? :=
      ⟨by rw [List.length_set,List.length_set]; exact h3,fun j j6 j9 => by rw [List.getElem?_set_ne (Ne.symm j9),List.getElem?_set_ne (Ne.symm j6)]; exact h4 j j6 j9⟩
     generalize (S'.set 6 (some (.str n))).set 9 (some (df (k7 n) (ad7 n) (l.map bz))) = S3 at h99 hS ⊢
     simp only [DVQ,ef h99]
     cases hk : k7 n with
     | false =>
      simp only [jF,df,Bool.false_eq_true,if_false,eD]
      refine ⟨ty_list,?_⟩
      rw [show aQ "tuple" "list" = false from by decide]
      simp only [Bool.false_eq_true,if_false]
      exact hR2 _ _ _ (Sub.refl _) ⟨done ++ [(n,l)],rest,by rw [h1]; simp,rfl,hS,h5,h6,fun q hq hkq => by
       obtain ⟨xs,a,b⟩:=h7 q hq hkq
       exact ⟨xs,a,by rw [List.length_append]; omega⟩,h8⟩
     | true =>
      obtain ⟨xs,hxs,hxl⟩:=h7 _ hq hk
      have hxs : G2 (ad7 n) = some (.lst xs):=hxs
      simp only [jF,df,if_true,eD,hxs]
      refine ⟨ty_list,?_⟩
      rw [show aQ "list" "list" = true from by decide]
      simp only [if_true]
      refine ⟨uz hxs,Nat.le_of_lt (dN (m:=1) (by decide)),vI hxs (dN (by omega)) ?_⟩
      have hGn:=hG.ls _ hq hk
      have hon:=hls.ls _ hq hk
      refine hR2 _ _ _ (Sub.refl _) ⟨done ++ [(n,l)],rest,by rw [h1]; simp,rfl,hS,?_,?_,fun q hq hkq => ?_,fun b o e z => ?_⟩
      . rw [ao (fun z => by rw [z,hGn] at hp; cases hp)]
        exact h5
      . rw [ao (fun z => by rw [z,hxs] at h6; cases h6)]
        exact h6
      . by_cases z : ad7 q.1 = ad7 n
        . rw [z,aH]
          exact ⟨_,rfl,by rw [List.length_append,List.length_append,List.length_singleton,List.length_singleton]; omega⟩
        . obtain ⟨ys,a,b⟩:=h7 q hq hkq
          exact ⟨ys,by rw [ao z]; exact a,by rw [List.length_append]; omega⟩
      . rw [ao (fun y => by rw [y,hon] at e; cases e)]
        exact h8 b o e z
   . refine ⟨[],qs,rfl,rfl,⟨hSl,fun _ _ _ => rfl⟩,aH,?_,fun q hq hkq => ?_,fun b o _ e => ?_⟩
     . rw [ao (fun z => by rw [<- z,hG.dc] at hp; cases hp)]
       exact hG.dc
     . refine ⟨q.2.map bz,?_,?_⟩
       . rw [ao (fun z => by rw [<- z,hG.ls q hq hkq] at hp; cases hp)]
         exact hG.ls q hq hkq
       . rw [List.length_map]
         have:=(hgq.nodes q hq).2
         simp only [List.length_nil]
         omega
     . rw [ao (fun z => by rw [z,hp] at e; cases e)]
       exact e
 clear e1 e2 e4 e7 e8
 rintro τ ⟨⟨e1,e2⟩,e4,e7,e8⟩
 refine a8 (M:=fun τ => St ai (n2 + 1) ms τ /\ τ 4 = some (.fr (.dic (ap ps))) /\ τ 8 = some (.fr (aA ai (aC ps ys)))) ?_ fun R' hR' => ?_
 rotate_left
 . intro w F own S G L g k
   obtain ⟨t7,z7,d7,kvs,rfl,hd7,hk7⟩:=g.cell 7 _ e7
   simp only [DVQ,ef z7]
   refine ⟨Nat.le_of_lt (dN (m:=1) (by decide)),Nat.le_of_lt (dN (m:=1) (by decide)),fun p hp => ?_⟩
   have hGd:=g.owG 7 _ _ hd7
   have hpd : d7 ≠ p:=fun z => by rw [<- z,hGd] at hp; cases hp
   refine qb (by rw [ao hpd]; exact hGd) (dN (by omega)) ?_
   have g':=xR (S':=S) (G':=gup (gup G p (.lst [.tup [.str "end"]])) d7 (.dic (dput kvs (.str "new") (.ref p)))) (σ':=τ) (i:=7) (t:=.ref d7) (c:=.ab fun _ _ => True) g rfl (fun i hi => by cases hi) (fun j c e => ⟨e,rfl⟩) (fun b o e z => by
    rw [ao (fun y => by rw [y,hd7] at z; cases z),ao (fun y => by rw [y,hp] at e; cases e)]
    exact e) z7 trivial
   exact k.nx _ _ _ _ _ (hR' _ ⟨⟨by simpa [ac] using e1,by simpa [ac] using e2⟩,by simpa [ac] using e4,by simpa [ac] using e8⟩) .refl g'
 clear e1 e2 e4 e7 e8
 rintro τ ⟨⟨e1,e2⟩,e4,e8⟩
 refine fo (σ1:=τ) (fun R' hR' => ?_) ?_
 . simp only [VVQ,e4,e8,pD]
   refine ⟨ps,ys,rfl,rfl,hgp,hys,hso,?_⟩
   simp only [Bool.not_true,Bool.false_eq_true,if_false]
   exact hR'
 refine a8 (M:=fun τ => ∃ rs n3,GoodParts rs /\ n3 <= n2 + 5 /\ St ai n3 ms τ /\ τ 4 = some (.fr (.dic (ap ps))) /\ τ 8 = some (.fr (aA ai (aC ps ys))) /\ τ 10 = some (.ow (.dic (ap rs)))) ?_ fun R' hR' => ?_
 rotate_left
 . simp only [VVQ,e1,e4,wn]
   refine ⟨n2 + 1,ps,rfl,rfl,hgp,hfew,hl8,by omega,fun rs n3 hgr hn3 => ?_⟩
   exact hR' _ ⟨rs,n3,hgr,by omega,⟨by simp [ac,bt,aW],by simpa [ac] using e2⟩,by simpa [ac] using e4,by simpa [ac] using e8,by simp [ac]⟩
 clear e1 e2 e4 e8
 rintro τ ⟨rs,n3,hgr,hn3,⟨e1,e2⟩,e4,e8,e10⟩
 have hgps:=iY hgp hys
 refine a8 (M:=fun τ => St ai n3 ms τ /\ τ 4 = some (.fr (.dic (ap ps))) /\ τ 8 = some (.fr (aA ai (aC ps ys)))) ?_ fun R' hR' => ?_
 rotate_left
 . simp only [VVQ,nj,jg,lD,e4,e8,e10,ui]
   refine ⟨rs,fun _ => true,rfl,hgr,fun y1 hy1 _ => ⟨aC ps ys,aC rs y1,rfl,.inr rfl,t9 hgps (iY hgr hy1),?_⟩⟩
   have he:=zT hgp hgr hys hy1
   simp only [Bool.false_eq_true,if_false,he,decide_true,Bool.not_true]
   refine ⟨zR hgr hgp,yM,?_⟩
   refine ⟨rs,fun _ => true,rfl,hgr,fun y2 hy2 _ => ⟨aC ps ys,aC rs y2,rfl,.inr rfl,t9 hgps (iY hgr hy2),?_⟩⟩
   have he2:=zT hgp hgr hys hy2
   simp only [if_true,he2]
   refine ⟨zR hgr hgp,yM,?_⟩
   rw [if_neg (by cases dC (ap rs) (ap ps) <;> simp)]
   exact hR' _ ⟨⟨by simpa [ac] using e1,by simpa [ac] using e2⟩,by simpa [ac] using e4,by simpa [ac] using e8⟩
 clear e1 e2 e4 e8 e10
 rintro τ ⟨⟨e1,e2⟩,e4,e8⟩
 refine a8 (M:=fun τ => St ai n3 ms τ /\ τ 4 = some (.fr (.dic (ap ps))) /\ τ 8 = some (.fr (aA ai (aC ps ys)))) ?_ fun R' hR' => ?_
 rotate_left
 . simp only [VVQ,nj,jg,lD,e4,e8,ui,abe hgp]
   refine ⟨ps.reverse,fun _ => true,rfl,tL hgp,fun y1 hy1 hs1 => ⟨aC ps ys,aC ps.reverse y1,rfl,.inr rfl,t9 hgps (iY (tL hgp) hy1),?_⟩⟩
   have hy1 : y1.Perm (ps.map (·.1)):=by
    rw [List.map_reverse] at hy1
    exact hy1.trans (List.reverse_perm _)
   rw [adq hgp,sort_one hnd hys hso hy1 hs1,abT hgps]
   simp only [if_true,Bool.not_true,Bool.false_eq_true,if_false]
   exact hR' _ ⟨⟨e1,e2⟩,e4,e8⟩
 clear e1 e2 e4 e8
 rintro τ ⟨⟨e1,e2⟩,e4,e8⟩
 refine a8 (M:=fun τ => St ai n3 ms τ /\ τ 4 = some (.fr (.dic (ap ps))) /\ τ 8 = some (.fr (aA ai (aC ps ys)))) ?_ fun R' hR' => ?_
 rotate_left
 . simp only [VVQ,nj,jg,lD,e4,e8]
   refine ⟨zr (by decide),?_⟩
   refine iw (fun _ => false) id (zr (show 3 <= 20000 by decide)) (fun x hx => ?_) ?_
   . refine ⟨_,rfl,fun A B hA hB => ?_⟩
     simp only [VVQ,jg,lD,e8]
     refine ⟨⟨_,rfl⟩,?_,?_⟩
     . simp only [List.mem_cons,List.not_mem_nil,or_false] at hx
       rcases hx with rfl | rfl | rfl
       . exact .inr (.inr ⟨_,rfl⟩)
       . exact .inl rfl
       . exact .inr (.inl ⟨_,rfl⟩)
     . simp only [Bool.false_eq_true,if_false]
       exact hA rfl _ fun i hi => by
        have : i ≠ 11:=fun z => hi (by simp [z])
        simp [ac,this]
   . simp only [ua,List.map_nil]
     refine ⟨Nat.zero_le _,mC (fun p hp => by cases hp),?_⟩
     simp only [decide_true,Bool.not_true,Bool.false_eq_true,if_false]
     exact hR' _ ⟨⟨by simpa [ac,ay] using e1,by simpa [ac,ay] using e2⟩,by simpa [ac,ay] using e4,by simpa [ac,ay] using e8⟩
 clear e1 e2 e4 e8
 rintro τ ⟨⟨e1,e2⟩,e4,e8⟩
 simp only [VVQ,e2,e4,e8]
 refine ⟨zr (by decide),zr (by rw [List.length_map]; omega),hR _ ⟨n3,ms ++ [(ps,ys)],fun m hm => ?_,⟨by simpa [ac] using e1,by simp [ac,mr]⟩,by omega,by rw [List.length_append,List.length_singleton]; omega⟩⟩
 rcases List.mem_append.mp hm with z | z
 . exact hms m z
 . rw [List.mem_singleton.mp z]
   exact ⟨hgp,hys,hso⟩
end
end K02
theorem PySem.Challenge.cw_everymiss_k02_programs_as_given_holds : PySem.Challenge.rw_everymiss_k02_programs_as_given.Holds := by
 exact K02.fin fun F => fun V => K02.law_fn F V
