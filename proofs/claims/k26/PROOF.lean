import PyProof.Rows.All
import Wide.All
import OpenK.AllK
import Wide.FinOn
import HandS.ForMost
import HandS.Codes
import HandS.Exc
import HandS.Zip
import HandS.Deep
import HandS.TupAny
import HandS.TupMul
import HandS.SortInts
import HandS.SortRule
import HandS.Wide
import HandS.IsInst
import HandS.TupLen
import HandS.Conv
import HandS.Flow
import HandS.More
import KE.KDictPairs
import HandS.Style
import HandS.SetFor
import PyProof.EnumMake
import PyProof.Draws
import PyProof.Rows.EnumRows
import HandS.SortKw
import KE.DataMinMax
import PyProof.DictUpdate
import PyProof.SumWalkG
import PyProof.WalksMore
import HandS.TupSets
import KE.KDictList
import HandS.ForExc
import HandS.ExcIs
import PyProof.DictMoreH
import HandS.DictTup
import HandS.ExcValue
import HandS.TryOnly
import PySem.Challenge.RW_tiefold_k26_shares_told
set_option Elab.async false
set_option linter.all false
set_option maxRecDepth 100000
namespace DL
open PySem PySem.Spec L2
/-- an exception, of the class C -/
def exφ (a C : Addr) : Heap → Prop := fun h => ∃ o, h.get? a = some o ∧ o.cls = .ref C ∧ o.dict = none ∧ ∃ vs, o.data = .fields vs
/-- plain data -/
inductive D where
  | non | bl (b : Bool) | int (i : Int) | str (x : Str) | opq (v : V)
  | tup (l : List D) | lst (l : List D) | dK (l : List (Key × D)) | dT (l : List (List Key × D))
  /-- a list of ints that is read alone -/
  | scr (l : List Int)
  /-- an exception of the class C -/
  | exn (C : Addr)
  /-- a tuple that may be one of the module's -/
  | ctup (l : List D)
mutual
inductive At (K : PySem.W.Frag) (h : Hp) : D → V → Prop
  | non : At K h .non .non
  | bl {b} : At K h (.bl b) (.bl b)
  | int {i} : At K h (.int i) (.int i)
  | str {x} : At K h (.str x) (.str x)
  | opq {v} : At K h (.opq v) v
  | tup {a ds vs} : h a = some (.tup vs) → Ats K h ds vs → At K h (.tup ds) (.ref a)
  | lst {a ds vs} : h a = some (.lst vs) → Ats K h ds vs → At K h (.lst ds) (.ref a)
  | ctup {a ds vs} : SqT K h a vs → Ats K h ds vs → At K h (.ctup ds) (.ref a)
  | scr {a ns} : SqL K h a (ns.map V.int) → At K h (.scr ns) (.ref a)
  | exn {a C φ} : h a = some (.ext φ) → (∀ hp, φ hp → exφ a C hp) → At K h (.exn C) (.ref a)
  | dK {a l m} : Rd h a (.dK m) → AtK K h l m → At K h (.dK l) (.ref a)
  | dT {a l m} : Rd h a (.dT m) → AtT K h l m → At K h (.dT l) (.ref a)
inductive Ats (K : PySem.W.Frag) (h : Hp) : List D → List V → Prop
  | nil : Ats K h [] []
  | cons {d ds v vs} : At K h d v → Ats K h ds vs → Ats K h (d :: ds) (v :: vs)
inductive AtK (K : PySem.W.Frag) (h : Hp) : List (Key × D) → List (Key × V) → Prop
  | nil : AtK K h [] []
  | cons {k d l v m} : At K h d v → AtK K h l m → AtK K h ((k, d) :: l) ((k, v) :: m)
inductive AtT (K : PySem.W.Frag) (h : Hp) : List (List Key × D) → List (List Key × V) → Prop
  | nil : AtT K h [] []
  | cons {k d l v m} : At K h d v → AtT K h l m → AtT K h ((k, d) :: l) ((k, v) :: m)
end
/-- an owned tree: its nodes may be written -/
inductive T where
  | fz (x : D) | ls (l : List D) | dk (l : List (Key × D)) | dt (l : List (List Key × D))
  | ll (l : List T) | dm (l : List (Key × T)) | ins (C : Addr) (fs : List (Str × T))
  /-- a tuple of owned trees -/
  | tu (l : List T)
mutual
inductive Own (K : PySem.W.Frag) (h H : Hp) : T → V → List Addr → Prop
  | fz {x v} : At K h x v → Own K h H (.fz x) v []
  | ls {a ds vs} : h a = none → H a = some (.lst vs) → Ats K h ds vs → Own K h H (.ls ds) (.ref a) [a]
  | dk {a l m} : h a = none → H a = some (.dK m) → AtK K h l m → Own K h H (.dk l) (.ref a) [a]
  | dt {a l m} : h a = none → H a = some (.dT m) → AtT K h l m → Own K h H (.dt l) (.ref a) [a]
  | ll {a ts vs fp} : h a = none → H a = some (.lst vs) → Owns K h H ts vs fp → Own K h H (.ll ts) (.ref a) (a :: fp)
  | dm {a l m fp} : h a = none → H a = some (.dK m) → OwnK K h H l m fp → Own K h H (.dm l) (.ref a) (a :: fp)
  | ins {a dx C l m fp} : h a = none → h dx = none → H a = some (.ins C dx m) → H dx = some (.own a) → OwnF K h H l m fp → Own K h H (.ins C l) (.ref a) (a :: dx :: fp)
  | tu {a ts vs fp} : h a = some (.tup vs) → Owns K h H ts vs fp → Own K h H (.tu ts) (.ref a) fp
inductive Owns (K : PySem.W.Frag) (h H : Hp) : List T → List V → List Addr → Prop
  | nil : Owns K h H [] [] []
  | cons {t ts v vs f1 f2} : Own K h H t v f1 → Owns K h H ts vs f2 → Owns K h H (t :: ts) (v :: vs) (f1 ++ f2)
inductive OwnK (K : PySem.W.Frag) (h H : Hp) : List (Key × T) → List (Key × V) → List Addr → Prop
  | nil : OwnK K h H [] [] []
  | cons {k t ts v vs f1 f2} : Own K h H t v f1 → OwnK K h H ts vs f2 → OwnK K h H ((k, t) :: ts) ((k, v) :: vs) (f1 ++ f2)
inductive OwnF (K : PySem.W.Frag) (h H : Hp) : List (Str × T) → List (Str × V) → List Addr → Prop
  | nil : OwnF K h H [] [] []
  | cons {k t ts v vs f1 f2} : Own K h H t v f1 → OwnF K h H ts vs f2 → OwnF K h H ((k, t) :: ts) ((k, v) :: vs) (f1 ++ f2)
end
abbrev En := List (Option T)
inductive OwnE (K : PySem.W.Frag) (h H : Hp) : En → St → List Addr → Prop
  | nil : OwnE K h H [] [] []
  | no {G o σ fp} : OwnE K h H G σ fp → OwnE K h H (none :: G) (o :: σ) fp
  | so {G t v σ f1 f2} : Own K h H t v f1 → OwnE K h H G σ f2 → OwnE K h H (some t :: G) (some v :: σ) (f1 ++ f2)
section
variable {K : PySem.W.Frag} {h h' H H' : Hp}
theorem rd_mono (s : Same h h') {a : Addr} {u : HO} (r : Rd h a u) : Rd h' a u := by
  rcases r with r | ⟨o, r⟩
  · exact .inl (s a _ r)
  · exact .inr ⟨o, s a _ r⟩
theorem sqt_mono (s : Same h h') {a : Addr} {xs : List V} (e : SqT K h a xs) : SqT K h' a xs := by
  rcases e with e | e
  · exact .inl (rd_mono s e)
  · exact .inr e
mutual
theorem At.mono (s : Same h h') : ∀ {d v}, At K h d v → At K h' d v
  | _, _, .non => .non
  | _, _, .bl => .bl
  | _, _, .int => .int
  | _, _, .str => .str
  | _, _, .opq => .opq
  | _, _, .tup e r => .tup (s _ _ e) (Ats.mono s r)
  | _, _, .lst e r => .lst (s _ _ e) (Ats.mono s r)
  | _, _, .scr e => .scr (s.seq e)
  | _, _, .ctup e r => .ctup (sqt_mono s e) (Ats.mono s r)
  | _, _, .exn e f => .exn (s _ _ e) f
  | _, _, .dK e r => .dK (rd_mono s e) (AtK.mono s r)
  | _, _, .dT e r => .dT (rd_mono s e) (AtT.mono s r)
theorem Ats.mono (s : Same h h') : ∀ {d v}, Ats K h d v → Ats K h' d v
  | _, _, .nil => .nil
  | _, _, .cons a r => .cons (At.mono s a) (Ats.mono s r)
theorem AtK.mono (s : Same h h') : ∀ {d v}, AtK K h d v → AtK K h' d v
  | _, _, .nil => .nil
  | _, _, .cons a r => .cons (At.mono s a) (AtK.mono s r)
theorem AtT.mono (s : Same h h') : ∀ {d v}, AtT K h d v → AtT K h' d v
  | _, _, .nil => .nil
  | _, _, .cons a r => .cons (At.mono s a) (AtT.mono s r)
end
mutual
/-- the tree stays where its nodes stay -/
theorem Own.move (s : Same h h') : ∀ {t v fp}, Own K h H t v fp → (∀ a ∈ fp, H' a = H a) → (∀ a ∈ fp, h' a = none) → Own K h' H' t v fp
  | _, _, _, .fz x, _, _ => .fz (x.mono s)
  | _, _, _, .ls a b c, e, n => .ls (n _ (by simp)) ((e _ (by simp)).trans b) (c.mono s)
  | _, _, _, .dk a b c, e, n => .dk (n _ (by simp)) ((e _ (by simp)).trans b) (c.mono s)
  | _, _, _, .dt a b c, e, n => .dt (n _ (by simp)) ((e _ (by simp)).trans b) (c.mono s)
  | _, _, _, .ll a b c, e, n => .ll (n _ (by simp)) ((e _ (by simp)).trans b) (Owns.move s c (fun x hx => e x (by simp [hx])) (fun x hx => n x (by simp [hx])))
  | _, _, _, .dm a b c, e, n => .dm (n _ (by simp)) ((e _ (by simp)).trans b) (OwnK.move s c (fun x hx => e x (by simp [hx])) (fun x hx => n x (by simp [hx])))
  | _, _, _, .ins a a' b b' c, e, n => .ins (n _ (by simp)) (n _ (by simp)) ((e _ (by simp)).trans b) ((e _ (by simp)).trans b') (OwnF.move s c (fun x hx => e x (by simp [hx])) (fun x hx => n x (by simp [hx])))
  | _, _, _, .tu a c, e, n => .tu (s _ _ a) (Owns.move s c e n)
theorem Owns.move (s : Same h h') : ∀ {t v fp}, Owns K h H t v fp → (∀ a ∈ fp, H' a = H a) → (∀ a ∈ fp, h' a = none) → Owns K h' H' t v fp
  | _, _, _, .nil, _, _ => .nil
  | _, _, _, .cons a r, e, n => .cons (Own.move s a (fun x hx => e x (by simp [hx])) (fun x hx => n x (by simp [hx]))) (Owns.move s r (fun x hx => e x (by simp [hx])) (fun x hx => n x (by simp [hx])))
theorem OwnK.move (s : Same h h') : ∀ {t v fp}, OwnK K h H t v fp → (∀ a ∈ fp, H' a = H a) → (∀ a ∈ fp, h' a = none) → OwnK K h' H' t v fp
  | _, _, _, .nil, _, _ => .nil
  | _, _, _, .cons a r, e, n => .cons (Own.move s a (fun x hx => e x (by simp [hx])) (fun x hx => n x (by simp [hx]))) (OwnK.move s r (fun x hx => e x (by simp [hx])) (fun x hx => n x (by simp [hx])))
theorem OwnF.move (s : Same h h') : ∀ {t v fp}, OwnF K h H t v fp → (∀ a ∈ fp, H' a = H a) → (∀ a ∈ fp, h' a = none) → OwnF K h' H' t v fp
  | _, _, _, .nil, _, _ => .nil
  | _, _, _, .cons a r, e, n => .cons (Own.move s a (fun x hx => e x (by simp [hx])) (fun x hx => n x (by simp [hx]))) (OwnF.move s r (fun x hx => e x (by simp [hx])) (fun x hx => n x (by simp [hx])))
end
theorem OwnE.move (s : Same h h') : ∀ {G σ fp}, OwnE K h H G σ fp → (∀ a ∈ fp, H' a = H a) → (∀ a ∈ fp, h' a = none) → OwnE K h' H' G σ fp
  | _, _, _, .nil, _, _ => .nil
  | _, _, _, .no r, e, n => .no (OwnE.move s r e n)
  | _, _, _, .so a r, e, n => .so (Own.move s a (fun x hx => e x (by simp [hx])) (fun x hx => n x (by simp [hx]))) (OwnE.move s r (fun x hx => e x (by simp [hx])) (fun x hx => n x (by simp [hx])))
mutual
/-- the nodes of a tree stand in H, not in h -/
theorem Own.there : ∀ {t v fp}, Own K h H t v fp → ∀ a ∈ fp, h a = none ∧ ∃ o, H a = some o
  | _, _, _, .fz _, _, m => nomatch m
  | _, _, _, .ls a b _, x, m => by simp only [List.mem_singleton] at m; subst m; exact ⟨a, _, b⟩
  | _, _, _, .dk a b _, x, m => by simp only [List.mem_singleton] at m; subst m; exact ⟨a, _, b⟩
  | _, _, _, .dt a b _, x, m => by simp only [List.mem_singleton] at m; subst m; exact ⟨a, _, b⟩
  | _, _, _, .ll a b c, x, m => by
    rcases List.mem_cons.mp m with rfl | m
    · exact ⟨a, _, b⟩
    · exact Owns.there c x m
  | _, _, _, .dm a b c, x, m => by
    rcases List.mem_cons.mp m with rfl | m
    · exact ⟨a, _, b⟩
    · exact OwnK.there c x m
  | _, _, _, .ins a a' b b' c, x, m => by
    rcases List.mem_cons.mp m with rfl | m
    · exact ⟨a, _, b⟩
    · rcases List.mem_cons.mp m with rfl | m
      · exact ⟨a', _, b'⟩
      · exact OwnF.there c x m
  | _, _, _, .tu a c, x, m => Owns.there c x m
theorem Owns.there : ∀ {t v fp}, Owns K h H t v fp → ∀ a ∈ fp, h a = none ∧ ∃ o, H a = some o
  | _, _, _, .nil, _, m => nomatch m
  | _, _, _, .cons a r, x, m => by
    rcases List.mem_append.mp m with m | m
    · exact Own.there a x m
    · exact Owns.there r x m
theorem OwnK.there : ∀ {t v fp}, OwnK K h H t v fp → ∀ a ∈ fp, h a = none ∧ ∃ o, H a = some o
  | _, _, _, .nil, _, m => nomatch m
  | _, _, _, .cons a r, x, m => by
    rcases List.mem_append.mp m with m | m
    · exact Own.there a x m
    · exact OwnK.there r x m
theorem OwnF.there : ∀ {t v fp}, OwnF K h H t v fp → ∀ a ∈ fp, h a = none ∧ ∃ o, H a = some o
  | _, _, _, .nil, _, m => nomatch m
  | _, _, _, .cons a r, x, m => by
    rcases List.mem_append.mp m with m | m
    · exact Own.there a x m
    · exact OwnF.there r x m
end
theorem OwnE.there : ∀ {G σ fp}, OwnE K h H G σ fp → ∀ a ∈ fp, h a = none ∧ ∃ o, H a = some o
  | _, _, _, .nil, _, m => nomatch m
  | _, _, _, .no r, x, m => OwnE.there r x m
  | _, _, _, .so a r, x, m => by
    rcases List.mem_append.mp m with m | m
    · exact Own.there a x m
    · exact OwnE.there r x m
end
/-- what no owned node is: a locked thing, a tuple -/
def badN : HO → Bool
  | .frz _ _ => true
  | .tup _ => true
  | _ => false
section
variable {K : PySem.W.Frag} {h H : Hp}
theorem nb {a : Addr} {o u : HO} (b : H a = some o) (ho : badN o = false) (hu : badN u = true) : H a ≠ some u := fun e => by
  rw [b] at e; cases e; rw [ho] at hu; cases hu
mutual
theorem Own.nobad : ∀ {t : T} {v : V} {fp : List Addr}, Own K h H t v fp → ∀ a ∈ fp, ∀ u, badN u = true → H a ≠ some u
  | _, _, _, .fz _, _, m, _, _ => nomatch m
  | _, _, _, .ls _ b _, x, m, u, hu => by simp only [List.mem_singleton] at m; subst m; exact nb b rfl hu
  | _, _, _, .dk _ b _, x, m, u, hu => by simp only [List.mem_singleton] at m; subst m; exact nb b rfl hu
  | _, _, _, .dt _ b _, x, m, u, hu => by simp only [List.mem_singleton] at m; subst m; exact nb b rfl hu
  | _, _, _, .ll _ b c, x, m, u, hu => by
    rcases List.mem_cons.mp m with rfl | m
    · exact nb b rfl hu
    · exact Owns.nobad c x m u hu
  | _, _, _, .dm _ b c, x, m, u, hu => by
    rcases List.mem_cons.mp m with rfl | m
    · exact nb b rfl hu
    · exact OwnK.nobad c x m u hu
  | _, _, _, .ins _ _ b b' c, x, m, u, hu => by
    rcases List.mem_cons.mp m with rfl | m
    · exact nb b rfl hu
    · rcases List.mem_cons.mp m with rfl | m
      · exact nb b' rfl hu
      · exact OwnF.nobad c x m u hu
  | _, _, _, .tu _ c, x, m, u, hu => Owns.nobad c x m u hu
theorem Owns.nobad : ∀ {t : List T} {v : List V} {fp : List Addr}, Owns K h H t v fp → ∀ a ∈ fp, ∀ u, badN u = true → H a ≠ some u
  | _, _, _, .nil, _, m, _, _ => nomatch m
  | _, _, _, .cons a r, x, m, u, hu => by
    rcases List.mem_append.mp m with m | m
    · exact Own.nobad a x m u hu
    · exact Owns.nobad r x m u hu
theorem OwnK.nobad : ∀ {t : List (Key × T)} {v : List (Key × V)} {fp : List Addr}, OwnK K h H t v fp → ∀ a ∈ fp, ∀ u, badN u = true → H a ≠ some u
  | _, _, _, .nil, _, m, _, _ => nomatch m
  | _, _, _, .cons a r, x, m, u, hu => by
    rcases List.mem_append.mp m with m | m
    · exact Own.nobad a x m u hu
    · exact OwnK.nobad r x m u hu
theorem OwnF.nobad : ∀ {t : List (Str × T)} {v : List (Str × V)} {fp : List Addr}, OwnF K h H t v fp → ∀ a ∈ fp, ∀ u, badN u = true → H a ≠ some u
  | _, _, _, .nil, _, m, _, _ => nomatch m
  | _, _, _, .cons a r, x, m, u, hu => by
    rcases List.mem_append.mp m with m | m
    · exact Own.nobad a x m u hu
    · exact OwnF.nobad r x m u hu
end
theorem OwnE.nobad : ∀ {G : En} {σ : St} {fp : List Addr}, OwnE K h H G σ fp → ∀ a ∈ fp, ∀ u, badN u = true → H a ≠ some u
  | _, _, _, .nil, _, m, _, _ => nomatch m
  | _, _, _, .no r, x, m, u, hu => OwnE.nobad r x m u hu
  | _, _, _, .so a r, x, m, u, hu => by
    rcases List.mem_append.mp m with m | m
    · exact Own.nobad a x m u hu
    · exact OwnE.nobad r x m u hu
end
mutual
/-- the data of a tree -/
def T.toD : T → D
  | .fz x => x
  | .ls l => .lst l
  | .dk l => .dK l
  | .dt l => .dT l
  | .ll l => .lst (T.toDs l)
  | .dm l => .dK (T.toDK l)
  | .ins _ _ => .non
  | .tu l => .tup (T.toDs l)
def T.toDs : List T → List D
  | [] => []
  | t :: r => t.toD :: T.toDs r
def T.toDK : List (Key × T) → List (Key × D)
  | [] => []
  | (k, t) :: r => (k, t.toD) :: T.toDK r
end
mutual
/-- no instance within -/
def T.calm : T → Bool
  | .fz _ => true
  | .ls _ => true
  | .dk _ => true
  | .dt _ => true
  | .ll l => T.calms l
  | .dm l => T.calmK l
  | .ins _ _ => false
  | .tu l => T.calms l
def T.calms : List T → Bool
  | [] => true
  | t :: r => t.calm && T.calms r
def T.calmK : List (Key × T) → Bool
  | [] => true
  | (_, t) :: r => t.calm && T.calmK r
end
/-- h with the nodes at fp as they stand in H -/
def froz (h H : Hp) (fp : List Addr) : Hp := fun a => if a ∈ fp then H a else h a
section
variable {K : PySem.W.Frag} {h h' H H' : Hp} {fp : List Addr}
theorem froz_in {a : Addr} (m : a ∈ fp) : froz h H fp a = H a := by unfold froz; rw [if_pos m]
theorem froz_out {a : Addr} (m : a ∉ fp) : froz h H fp a = h a := by unfold froz; rw [if_neg m]
theorem froz_same (n : ∀ a ∈ fp, h a = none) : Same h (froz h H fp) := fun a o e => by
  by_cases m : a ∈ fp
  · rw [n a m] at e; cases e
  · rw [froz_out m]; exact e
mutual
theorem Own.freeze (s : Same h h') : ∀ {t v fp}, Own K h H t v fp → (∀ a ∈ fp, h' a = H a) → t.calm = true → At K h' t.toD v
  | _, _, _, .fz x, _, _ => x.mono s
  | _, _, _, .ls a b c, e, _ => .lst ((e _ (by simp)).trans b) (c.mono s)
  | _, _, _, .dk a b c, e, _ => .dK (.inl ((e _ (by simp)).trans b)) (c.mono s)
  | _, _, _, .dt a b c, e, _ => .dT (.inl ((e _ (by simp)).trans b)) (c.mono s)
  | _, _, _, .ll a b c, e, n => .lst ((e _ (by simp)).trans b) (Owns.freeze s c (fun x hx => e x (by simp [hx])) n)
  | _, _, _, .dm a b c, e, n => .dK (.inl ((e _ (by simp)).trans b)) (OwnK.freeze s c (fun x hx => e x (by simp [hx])) n)
  | _, _, _, .ins .., _, n => nomatch n
  | _, _, _, .tu a c, e, n => .tup (s _ _ a) (Owns.freeze s c e n)
theorem Owns.freeze (s : Same h h') : ∀ {t v fp}, Owns K h H t v fp → (∀ a ∈ fp, h' a = H a) → T.calms t = true → Ats K h' (T.toDs t) v
  | _, _, _, .nil, _, _ => .nil
  | _, _, _, .cons a r, e, n => by
    simp only [T.calms, Bool.and_eq_true] at n
    exact .cons (Own.freeze s a (fun x hx => e x (by simp [hx])) n.1) (Owns.freeze s r (fun x hx => e x (by simp [hx])) n.2)
theorem OwnK.freeze (s : Same h h') : ∀ {t v fp}, OwnK K h H t v fp → (∀ a ∈ fp, h' a = H a) → T.calmK t = true → AtK K h' (T.toDK t) v
  | _, _, _, .nil, _, _ => .nil
  | _, _, _, .cons a r, e, n => by
    simp only [T.calmK, Bool.and_eq_true] at n
    exact .cons (Own.freeze s a (fun x hx => e x (by simp [hx])) n.1) (OwnK.freeze s r (fun x hx => e x (by simp [hx])) n.2)
end
end
def isDic : HO → Bool
  | .dK _ => true
  | .dT _ => true
  | _ => false
/-- h's objects stand in H (a dict perhaps locked) -/
def Sub (h H : Hp) : Prop := ∀ a o, h a = some o → H a = some o ∨ (isDic o = true ∧ ∃ ob, H a = some (.frz ob o))
theorem Sub.of {h H : Hp} (s : Same h H) : Sub h H := fun a o e => .inl (s a o e)
theorem Sub.refl (h : Hp) : Sub h h := fun _ _ e => .inl e
theorem Sub.rd {h H : Hp} (s : Sub h H) {a : Addr} {u : HO} (r : Rd h a u) : Rd H a u := by
  rcases r with r | ⟨o, r⟩
  · rcases s a u r with q | ⟨_, ob, q⟩
    · exact .inl q
    · exact .inr ⟨ob, q⟩
  · rcases s a _ r with q | ⟨q, _⟩
    · exact .inr ⟨o, q⟩
    · cases q
theorem Sub.tup {h H : Hp} (s : Sub h H) {a : Addr} {vs : List V} (r : h a = some (.tup vs)) : H a = some (.tup vs) := by
  rcases s a _ r with q | ⟨q, _⟩
  · exact q
  · cases q
theorem Sub.ext {h H : Hp} (s : Sub h H) {a : Addr} {φ : Heap → Prop} (r : h a = some (.ext φ)) : H a = some (.ext φ) := by
  rcases s _ _ r with q | ⟨q, _⟩
  · exact q
  · cases q
theorem Sub.lst {h H : Hp} (s : Sub h H) {a : Addr} {vs : List V} (r : h a = some (.lst vs)) : H a = some (.lst vs) := by
  rcases s a _ r with q | ⟨q, _⟩
  · exact q
  · cases q
theorem Sub.sql {K : PySem.W.Frag} {h H : Hp} (s : Sub h H) {a : Addr} {vs : List V} (r : SqL K h a vs) : SqL K H a vs := by
  rcases r with r | r
  · exact .inl (s.rd r)
  · exact .inr r
theorem Sub.sqt {K : PySem.W.Frag} {h H : Hp} (s : Sub h H) {a : Addr} {vs : List V} (r : SqT K h a vs) : SqT K H a vs := by
  rcases r with r | r
  · exact .inl (s.rd r)
  · exact .inr r
theorem Sub.trans {h H H' : Hp} (s : Sub h H) (t : Sub H H') : Sub h H' := fun a o e => by
  rcases s a o e with q | ⟨d, ob, q⟩
  · exact t a o q
  · rcases t a _ q with r | ⟨r, _⟩
    · exact .inr ⟨d, ob, r⟩
    · cases r
theorem Sub.there {h H : Hp} (s : Sub h H) {a : Addr} {o : HO} (e : h a = some o) : ∃ u, H a = some u := by
  rcases s a o e with q | ⟨_, ob, q⟩
  · exact ⟨_, q⟩
  · exact ⟨_, q⟩
mutual
theorem At.sub {K : PySem.W.Frag} {h H : Hp} (s : Sub h H) : ∀ {d v}, At K h d v → At K H d v
  | _, _, .non => .non
  | _, _, .bl => .bl
  | _, _, .int => .int
  | _, _, .str => .str
  | _, _, .opq => .opq
  | _, _, .tup e r => .tup (s.tup e) (Ats.sub s r)
  | _, _, .lst e r => .lst (s.lst e) (Ats.sub s r)
  | _, _, .scr e => .scr (s.sql e)
  | _, _, .ctup e r => .ctup (s.sqt e) (Ats.sub s r)
  | _, _, .exn e f => .exn (s.ext e) f
  | _, _, .dK e r => .dK (s.rd e) (AtK.sub s r)
  | _, _, .dT e r => .dT (s.rd e) (AtT.sub s r)
theorem Ats.sub {K : PySem.W.Frag} {h H : Hp} (s : Sub h H) : ∀ {d v}, Ats K h d v → Ats K H d v
  | _, _, .nil => .nil
  | _, _, .cons a r => .cons (At.sub s a) (Ats.sub s r)
theorem AtK.sub {K : PySem.W.Frag} {h H : Hp} (s : Sub h H) : ∀ {d v}, AtK K h d v → AtK K H d v
  | _, _, .nil => .nil
  | _, _, .cons a r => .cons (At.sub s a) (AtK.sub s r)
theorem AtT.sub {K : PySem.W.Frag} {h H : Hp} (s : Sub h H) : ∀ {d v}, AtT K h d v → AtT K H d v
  | _, _, .nil => .nil
  | _, _, .cons a r => .cons (At.sub s a) (AtT.sub s r)
end
structure Stt (K : PySem.W.Frag) (h H : Hp) (G : En) (σ : St) (fp : List Addr) : Prop where
  sub : Sub h H
  env : OwnE K h H G σ fp
  nd : fp.Nodup
/-- from (h, H, fp) to (h', H', fp'): the frozen part grows, what isn't owned stays, new nodes are new -/
def Frs (H : Hp) (a : Addr) : Prop := H a = none ∨ ∃ vs, H a = some (.tup vs)
structure Ext (h H : Hp) (fp : List Addr) (h' H' : Hp) (fp' : List Addr) : Prop where
  gh : Same h h'
  fr : ∀ a o, a ∉ fp → H a = some o → H' a = some o ∨ (isDic o = true ∧ (∃ ob, H' a = some (.frz ob o)) ∧ ∃ u, h' a = some u)
  nw : ∀ a, a ∈ fp' → a ∈ fp ∨ H a = none
  hn : ∀ a o, h' a = some o → h a = some o ∨ a ∈ fp ∨ Frs H a
theorem Ext.refl (h H : Hp) (fp : List Addr) : Ext h H fp h H fp := ⟨Same.refl h, fun _ _ _ e => .inl e, fun _ m => .inl m, fun _ _ e => .inl e⟩
theorem Ext.trans {h H h1 H1 h2 H2 : Hp} {fp f1 f2 : List Addr} (a : Ext h H fp h1 H1 f1) (b : Ext h1 H1 f1 h2 H2 f2) : Ext h H fp h2 H2 f2 where
  gh := a.gh.trans b.gh
  fr := fun x o hx e => by
    have hx1 : x ∉ f1 := fun m => by
      rcases a.nw x m with q | q
      · exact hx q
      · rw [q] at e; cases e
    rcases a.fr x o hx e with q | ⟨d, ⟨ob, q⟩, u, hu⟩
    · exact b.fr x o hx1 q
    · rcases b.fr x _ hx1 q with r | ⟨z, _⟩
      · exact .inr ⟨d, ⟨ob, r⟩, u, b.gh x u hu⟩
      · cases z
  nw := fun x m => by
    rcases b.nw x m with q | q
    · exact a.nw x q
    · by_cases hx : x ∈ fp
      · exact .inl hx
      · cases e : H x with
        | none => exact .inr rfl
        | some o => rcases a.fr x o hx e with r | ⟨_, ⟨_, r⟩, _⟩ <;> (rw [r] at q; cases q)
  hn := fun x o e => by
    rcases b.hn x o e with q | q | q
    · exact a.hn x o q
    · exact .inr ((a.nw x q).imp id .inl)
    · by_cases hx : x ∈ fp
      · exact .inr (.inl hx)
      · cases e2 : H x with
        | none => exact .inr (.inr (.inl e2))
        | some u =>
          rcases q with q | ⟨vs, q⟩
          · rcases a.fr x u hx e2 with r | ⟨_, ⟨_, r⟩, _⟩ <;> (rw [r] at q; cases q)
          · rcases a.fr x u hx e2 with r | ⟨_, ⟨_, r⟩, _⟩
            · rw [r] at q; cases q; exact .inr (.inr (.inr ⟨vs, e2⟩))
            · rw [r] at q; cases q
theorem Frs.no {H : Hp} {a : Addr} {u : HO} (r : Frs H a) (e : H a = some u) (n : ∀ w, badN w = true → H a ≠ some w) : False := by
  rcases r with r | ⟨vs, r⟩
  · rw [e] at r; cases r
  · exact n _ rfl r
theorem Ext.stay {h H h1 H1 : Hp} {fp f1 : List Addr} (a : Ext h H fp h1 H1 f1) {x : Addr} {o : HO} (n : h1 x = none) (hx : x ∉ fp) (e : H x = some o) : H1 x = some o := by
  rcases a.fr x o hx e with q | ⟨_, _, u, hu⟩
  · exact q
  · rw [n] at hu; cases hu
theorem Ext.sub {h H h1 H1 : Hp} {fp f1 : List Addr} (a : Ext h H fp h1 H1 f1) (k : ∀ x ∈ fp, H1 x = H x) : Sub H H1 := fun x o e => by
  by_cases m : x ∈ fp
  · exact .inl (by rw [k x m]; exact e)
  · rcases a.fr x o m e with q | ⟨d, q, _⟩
    · exact .inl q
    · exact .inr ⟨d, q⟩
theorem Ext.weak {h H h1 H1 : Hp} {fp f1 f2 : List Addr} (a : Ext h H fp h1 H1 f1) (s : ∀ x ∈ f2, x ∈ f1) : Ext h H fp h1 H1 f2 :=
  ⟨a.gh, a.fr, fun x m => a.nw x (s x m), a.hn⟩
end DL
namespace DL
open PySem PySem.Spec L2
def look {κ α : Type} [DecidableEq κ] : List (κ × α) → κ → Option α
  | [], _ => none
  | (k', v) :: r, k => if k' = k then some v else look r k
def setL {κ α : Type} [DecidableEq κ] : List (κ × α) → κ → α → List (κ × α)
  | [], _, _ => []
  | (k', v) :: r, k, x => if k' = k then (k', x) :: r else (k', v) :: setL r k x
inductive Stp where
  | ix (k : Nat) | ky (k : Key) | fd (f : Str)
/-- a value on the way: a tree of its own, or what stands at a place of the environment -/
inductive Vl where
  | t (t : T) | pk (i : Nat) (p : Option Stp)
def T.kid : T → Stp → Option T
  | .ll l, .ix k => l[k]?
  | .dm l, .ky k => look l k
  | .ins _ l, .fd f => look l f
  | _, _ => none
def T.setKid : T → Stp → T → T
  | .ll l, .ix k, t => .ll (l.set k t)
  | .dm l, .ky k, t => .dm (setL l k t)
  | .ins C l, .fd f, t => .ins C (setL l f t)
  | t, _, _ => t
def atE (G : En) (i : Nat) (p : Option Stp) : Option T :=
  match G[i]? with
  | some (some t) => (match p with | none => some t | some s => t.kid s)
  | _ => none
def setE (G : En) (i : Nat) (p : Option Stp) (t' : T) : En :=
  match p with
  | none => G.set i (some t')
  | some s => (match G[i]? with | some (some t) => G.set i (some (t.setKid s t')) | _ => G)
def Phys (H : Hp) (s : Stp) (v vc : V) : Prop := ∃ a, v = .ref a ∧ match s with
  | .ix k => ∃ vs, H a = some (.lst vs) ∧ vs[k]? = some vc
  | .ky k => ∃ m, H a = some (.dK m) ∧ look m k = some vc
  | .fd f => ∃ C dx m, H a = some (.ins C dx m) ∧ look m f = some vc
def LocV (H : Hp) (σ : L2.St) (i : Nat) (p : Option Stp) (v : V) : Prop := ∃ v0, σ[i]? = some (some v0) ∧ match p with
  | none => v = v0
  | some s => Phys H s v0 v
section
variable {K : PySem.W.Frag} {h H h' H' : Hp}
/-- a part of a tree list, and what may be put there -/
theorem Owns.at : ∀ {ts : List T} {vs : List V} {fp : List Addr} {k : Nat} {t : T} {v : V}, Owns K h H ts vs fp → ts[k]? = some t → vs[k]? = some v →
    ∃ f1 fc f2, fp = f1 ++ fc ++ f2 ∧ Own K h H t v fc ∧ ∀ h2 H2 t2 fc2, Same h h2 → (∀ a ∈ f1 ++ f2, H2 a = H a ∧ h2 a = none) → Own K h2 H2 t2 v fc2 → Owns K h2 H2 (ts.set k t2) vs (f1 ++ fc2 ++ f2)
  | _, _, _, k, _, _, .nil, e, _ => by simp at e
  | _, _, _, 0, _, _, .cons (f1 := g1) (f2 := g2) a r, e, e' => by
    simp at e e'; subst e e'
    exact ⟨[], g1, g2, by simp, a, fun h2 H2 t2 fc2 s k o => .cons o (r.move s (fun x m => (k x (by simpa using m)).1) fun x m => (k x (by simpa using m)).2)⟩
  | _, _, _, k + 1, _, _, .cons (f1 := g1) (f2 := g2) a r, e, e' => by
    obtain ⟨f1, fc, f2, ef, o, put⟩ := Owns.at r (by simpa using e) (by simpa using e')
    refine ⟨g1 ++ f1, fc, f2, by simp [ef], o, fun h2 H2 t2 fc2 s k o2 => ?_⟩
    have q := put h2 H2 t2 fc2 s (fun x m => k x (by simp at m ⊢; rcases m with m | m <;> simp [m])) o2
    have q2 := Owns.cons (a.move s (fun x m => (k x (by simp [m])).1) fun x m => (k x (by simp [m])).2) q
    simpa using q2
theorem OwnK.at : ∀ {ts vs fp k t v}, OwnK K h H ts vs fp → look ts k = some t → look vs k = some v →
    ∃ f1 fc f2, fp = f1 ++ fc ++ f2 ∧ Own K h H t v fc ∧ ∀ h2 H2 t2 fc2, Same h h2 → (∀ a ∈ f1 ++ f2, H2 a = H a ∧ h2 a = none) → Own K h2 H2 t2 v fc2 → OwnK K h2 H2 (setL ts k t2) vs (f1 ++ fc2 ++ f2)
  | _, _, _, _, _, _, .nil, e, _ => by simp [look] at e
  | _, _, _, k, _, _, .cons (k := k') (f1 := g1) (f2 := g2) a r, e, e' => by
    by_cases hk : k' = k
    · simp only [look, if_pos hk, Option.some.injEq] at e e'
      subst e e'
      exact ⟨[], g1, g2, by simp, a, fun h2 H2 t2 fc2 s q o => by
        simp only [setL, if_pos hk]
        exact .cons o (r.move s (fun x m => (q x (by simpa using m)).1) fun x m => (q x (by simpa using m)).2)⟩
    · simp only [look, if_neg hk] at e e'
      obtain ⟨f1, fc, f2, ef, o, put⟩ := OwnK.at r e e'
      refine ⟨g1 ++ f1, fc, f2, by simp [ef], o, fun h2 H2 t2 fc2 s q o2 => ?_⟩
      have q1 := put h2 H2 t2 fc2 s (fun x m => q x (by simp at m ⊢; rcases m with m | m <;> simp [m])) o2
      have q2 := OwnK.cons (k := k') (a.move s (fun x m => (q x (by simp [m])).1) fun x m => (q x (by simp [m])).2) q1
      simp only [setL, if_neg hk]
      simpa using q2
theorem OwnF.at : ∀ {ts vs fp k t v}, OwnF K h H ts vs fp → look ts k = some t → look vs k = some v →
    ∃ f1 fc f2, fp = f1 ++ fc ++ f2 ∧ Own K h H t v fc ∧ ∀ h2 H2 t2 fc2, Same h h2 → (∀ a ∈ f1 ++ f2, H2 a = H a ∧ h2 a = none) → Own K h2 H2 t2 v fc2 → OwnF K h2 H2 (setL ts k t2) vs (f1 ++ fc2 ++ f2)
  | _, _, _, _, _, _, .nil, e, _ => by simp [look] at e
  | _, _, _, k, _, _, .cons (k := k') (f1 := g1) (f2 := g2) a r, e, e' => by
    by_cases hk : k' = k
    · simp only [look, if_pos hk, Option.some.injEq] at e e'
      subst e e'
      exact ⟨[], g1, g2, by simp, a, fun h2 H2 t2 fc2 s q o => by
        simp only [setL, if_pos hk]
        exact .cons o (r.move s (fun x m => (q x (by simpa using m)).1) fun x m => (q x (by simpa using m)).2)⟩
    · simp only [look, if_neg hk] at e e'
      obtain ⟨f1, fc, f2, ef, o, put⟩ := OwnF.at r e e'
      refine ⟨g1 ++ f1, fc, f2, by simp [ef], o, fun h2 H2 t2 fc2 s q o2 => ?_⟩
      have q1 := put h2 H2 t2 fc2 s (fun x m => q x (by simp at m ⊢; rcases m with m | m <;> simp [m])) o2
      have q2 := OwnF.cons (k := k') (a.move s (fun x m => (q x (by simp [m])).1) fun x m => (q x (by simp [m])).2) q1
      simp only [setL, if_neg hk]
      simpa using q2
/-- a child of a tree -/
theorem Own.kid {t : T} {v0 : V} {fp : List Addr} {s : Stp} {tc : T} {v : V} (o : Own K h H t v0 fp) (e : t.kid s = some tc) (p : Phys H s v0 v) :
    ∃ f1 fc f2, fp = f1 ++ fc ++ f2 ∧ Own K h H tc v fc ∧ ∀ h2 H2 t2 fc2, Same h h2 → (∀ a ∈ f1 ++ f2, H2 a = H a ∧ h2 a = none) → Own K h2 H2 t2 v fc2 → Own K h2 H2 (t.setKid s t2) v0 (f1 ++ fc2 ++ f2) := by
  obtain ⟨a, rfl, p⟩ := p
  cases o with
  | fz x => cases s <;> simp [T.kid] at e
  | ls _ _ _ => cases s <;> simp [T.kid] at e
  | dk _ _ _ => cases s <;> simp [T.kid] at e
  | dt _ _ _ => cases s <;> simp [T.kid] at e
  | ll n b c =>
    cases s with
    | ix k =>
      obtain ⟨vs, e1, e2⟩ := p
      rw [b] at e1; cases e1
      obtain ⟨f1, fc, f2, ef, oc, put⟩ := c.at e e2
      refine ⟨a :: f1, fc, f2, by simp [ef], oc, fun h2 H2 t2 fc2 s q o2 => ?_⟩
      have q1 := put h2 H2 t2 fc2 s (fun x m => q x (by simp at m ⊢; rcases m with m | m <;> simp [m])) o2
      exact .ll (q a (by simp)).2 ((q a (by simp)).1.trans b) q1
    | ky k => simp [T.kid] at e
    | fd f => simp [T.kid] at e
  | dm n b c =>
    cases s with
    | ky k =>
      obtain ⟨vs, e1, e2⟩ := p
      rw [b] at e1; cases e1
      obtain ⟨f1, fc, f2, ef, oc, put⟩ := c.at e e2
      refine ⟨a :: f1, fc, f2, by simp [ef], oc, fun h2 H2 t2 fc2 s q o2 => ?_⟩
      have q1 := put h2 H2 t2 fc2 s (fun x m => q x (by simp at m ⊢; rcases m with m | m <;> simp [m])) o2
      exact .dm (q a (by simp)).2 ((q a (by simp)).1.trans b) q1
    | ix k => simp [T.kid] at e
    | fd f => simp [T.kid] at e
  | @ins _ dx C l m fp' n n' b b' c =>
    cases s with
    | fd k =>
      obtain ⟨C', dx', vs, e1, e2⟩ := p
      rw [b] at e1; cases e1
      obtain ⟨f1, fc, f2, ef, oc, put⟩ := c.at e e2
      refine ⟨a :: dx :: f1, fc, f2, by simp [ef], oc, fun h2 H2 t2 fc2 s q o2 => ?_⟩
      have q1 := put h2 H2 t2 fc2 s (fun x m => q x (by simp at m ⊢; rcases m with m | m <;> simp [m])) o2
      exact .ins (q a (by simp)).2 (q dx (by simp)).2 ((q a (by simp)).1.trans b) ((q dx (by simp)).1.trans b') q1
    | ix k => simp [T.kid] at e
    | ky f => simp [T.kid] at e
  | tu _ _ => cases s <;> simp [T.kid] at e
theorem OwnE.slot : ∀ {G : En} {σ : L2.St} {fp : List Addr} {i : Nat} {t : T} {v : V}, OwnE K h H G σ fp → G[i]? = some (some t) → σ[i]? = some (some v) →
    ∃ f1 fc f2, fp = f1 ++ fc ++ f2 ∧ Own K h H t v fc ∧ (∀ h2 H2 t2 fc2, Same h h2 → (∀ a ∈ f1 ++ f2, H2 a = H a ∧ h2 a = none) → Own K h2 H2 t2 v fc2 → OwnE K h2 H2 (G.set i (some t2)) σ (f1 ++ fc2 ++ f2)) ∧ ∀ o, OwnE K h H (G.set i none) (σ.set i o) (f1 ++ f2)
  | _, _, _, i, _, _, .nil, e, _ => by simp at e
  | _, _, _, 0, _, _, .no r, e, _ => by simp at e
  | _, _, _, 0, _, _, .so (f1 := g1) (f2 := g2) a r, e, e' => by
    simp at e e'; subst e e'
    exact ⟨[], g1, g2, by simp, a, fun h2 H2 t2 fc2 s k o => .so o (r.move s (fun x m => (k x (by simpa using m)).1) fun x m => (k x (by simpa using m)).2), fun o => .no r⟩
  | _, _, _, i + 1, _, _, .no r, e, e' => by
    obtain ⟨f1, fc, f2, ef, o, put, cut⟩ := OwnE.slot r (by simpa using e) (by simpa using e')
    exact ⟨f1, fc, f2, ef, o, fun h2 H2 t2 fc2 s k o => .no (put h2 H2 t2 fc2 s k o), fun o => .no (cut o)⟩
  | _, _, _, i + 1, _, _, .so (f1 := g1) (f2 := g2) a r, e, e' => by
    obtain ⟨f1, fc, f2, ef, o, put, cut⟩ := OwnE.slot r (by simpa using e) (by simpa using e')
    refine ⟨g1 ++ f1, fc, f2, by simp [ef], o, fun h2 H2 t2 fc2 s k o2 => ?_, fun o => ?_⟩
    · have q := put h2 H2 t2 fc2 s (fun x m => k x (by simp at m ⊢; rcases m with m | m <;> simp [m])) o2
      have q2 := OwnE.so (a.move s (fun x m => (k x (by simp [m])).1) fun x m => (k x (by simp [m])).2) q
      simpa using q2
    · have q2 := OwnE.so a (cut o)
      simpa using q2
/-- a value at a slot that knows nothing -/
theorem OwnE.cut : ∀ {G : En} {σ : L2.St} {fp : List Addr} (i : Nat) (o : Option V), OwnE K h H G σ fp → ∃ fp', OwnE K h H (G.set i none) (σ.set i o) fp' ∧ fp'.Sublist fp
  | _, _, _, i, o, .nil => ⟨[], .nil, .refl _⟩
  | _, _, _, 0, o, .no r => ⟨_, .no r, .refl _⟩
  | _, _, _, 0, o, .so (f1 := g1) a r => ⟨_, .no r, List.sublist_append_right g1 _⟩
  | _, _, _, i + 1, o, .no r => by
    obtain ⟨f, q, s⟩ := OwnE.cut i o r
    exact ⟨f, .no q, s⟩
  | _, _, _, i + 1, o, .so (f1 := g1) a r => by
    obtain ⟨f, q, s⟩ := OwnE.cut i o r
    exact ⟨g1 ++ f, .so a q, List.Sublist.append (.refl _) s⟩
theorem OwnE.put : ∀ {G : En} {σ : L2.St} {fp : List Addr} {i : Nat} {t : T} {v : V} {fc : List Addr}, OwnE K h H G σ fp → G[i]? = some none → Own K h H t v fc → ∃ fp', OwnE K h H (G.set i (some t)) (σ.set i (some v)) fp' ∧ fp'.Perm (fp ++ fc)
  | _, _, _, i, _, _, _, .nil, e, _ => by simp at e
  | _, _, _, 0, _, _, fc, .no (fp := fp) r, e, o => ⟨fc ++ fp, .so o r, List.perm_append_comm⟩
  | _, _, _, 0, _, _, _, .so a r, e, _ => by simp at e
  | _, _, _, i + 1, _, _, _, .no r, e, o => by
    obtain ⟨f, q, s⟩ := OwnE.put r (by simpa using e) o
    exact ⟨f, .no q, s⟩
  | _, _, _, i + 1, _, _, _, .so (f1 := g1) (f2 := g2) a r, e, o => by
    obtain ⟨f, q, s⟩ := OwnE.put r (by simpa using e) o
    exact ⟨g1 ++ f, .so a q, by rw [List.append_assoc]; exact List.Perm.append_left g1 s⟩
theorem OwnE.length : ∀ {G : En} {σ : L2.St} {fp : List Addr}, OwnE K h H G σ fp → G.length = σ.length
  | _, _, _, .nil => rfl
  | _, _, _, .no r => by simp [OwnE.length r]
  | _, _, _, .so a r => by simp [OwnE.length r]
theorem OwnE.has : ∀ {G : En} {σ : L2.St} {fp : List Addr} {i : Nat} {t : T}, OwnE K h H G σ fp → G[i]? = some (some t) → ∃ v, σ[i]? = some (some v)
  | _, _, _, i, _, .nil, e => by simp at e
  | _, _, _, 0, _, .no r, e => by simp at e
  | _, _, _, 0, _, .so (v := v) a r, e => ⟨v, by simp⟩
  | _, _, _, i + 1, _, .no r, e => by simpa using OwnE.has r (by simpa using e)
  | _, _, _, i + 1, _, .so a r, e => by simpa using OwnE.has r (by simpa using e)
/-- a place of the environment -/
theorem OwnE.loc {G : En} {σ : L2.St} {fp : List Addr} {i : Nat} {p : Option Stp} {t : T} {v : V} (o : OwnE K h H G σ fp) (e : atE G i p = some t) (l : LocV H σ i p v) :
    ∃ f1 fc f2, fp = f1 ++ fc ++ f2 ∧ Own K h H t v fc ∧ ∀ h2 H2 t2 fc2, Same h h2 → (∀ a ∈ f1 ++ f2, H2 a = H a ∧ h2 a = none) → Own K h2 H2 t2 v fc2 → OwnE K h2 H2 (setE G i p t2) σ (f1 ++ fc2 ++ f2) := by
  obtain ⟨v0, e0, l⟩ := l
  unfold atE at e
  split at e
  · rename_i t0 eg
    cases p with
    | none =>
      cases e
      cases l
      obtain ⟨f1, fc, f2, ef, oc, put, _⟩ := o.slot eg e0
      exact ⟨f1, fc, f2, ef, oc, put⟩
    | some s =>
      obtain ⟨f1, fc, f2, ef, oc, put, _⟩ := o.slot eg e0
      obtain ⟨g1, gc, g2, eg2, oc2, put2⟩ := oc.kid e l
      refine ⟨f1 ++ g1, gc, g2 ++ f2, by simp [ef, eg2], oc2, fun h2 H2 t2 fc2 s k o2 => ?_⟩
      have q := put2 h2 H2 t2 fc2 s (fun x m => k x (by simp at m ⊢; rcases m with m | m <;> simp [m])) o2
      have q2 := put h2 H2 _ _ s (fun x m => k x (by simp at m ⊢; rcases m with m | m <;> simp [m])) q
      simp only [setE, eg]
      simpa using q2
  · cases e
end
end DL
namespace DL
open PySem PySem.Spec L2
inductive OwnV (K : PySem.W.Frag) (h H : Hp) (G : En) (σ : L2.St) : Vl → V → List Addr → Prop
  | t {t v fp} : Own K h H t v fp → OwnV K h H G σ (.t t) v fp
  | pk {i p v t} : LocV H σ i p v → atE G i p = some t → OwnV K h H G σ (.pk i p) v []
structure Res (K : PySem.W.Frag) (pu : Bool) (σ : L2.St) (h H : Hp) (G : En) (fp : List Addr) (h' H' : Hp) (G' : En) (fp' : List Addr) (vl : Vl) (v : V) (fv : List Addr) : Prop where
  st : Stt K h' H' G' σ fp'
  ov : OwnV K h' H' G' σ vl v fv
  nd : (fp' ++ fv).Nodup
  ex : Ext h H fp h' H' (fp' ++ fv)
  pu : pu = true → G' = G ∧ fp' = fp ∧ ∀ a ∈ fp, H' a = H a
def EPost (K : PySem.W.Frag) (pu : Bool) (σ : L2.St) (h H : Hp) (G : En) (fp : List Addr) (Q : En → Vl → Prop) : VK := fun v H' => ∃ h' G' fp' vl fv, Res K pu σ h H G fp h' H' G' fp' vl v fv ∧ Q G' vl
abbrev DTE := En → (En → Vl → Prop) → Prop
abbrev DTT := En → (En → Bool → Prop) → Prop
def sE (K : PySem.W.Frag) (pu : Bool) (t : DTE) : TE := fun σ H Q' => ∃ h G fp Q, Stt K h H G σ fp ∧ t G Q ∧ ∀ v H', EPost K pu σ h H G fp Q v H' → Q' v H'
def DE (X : Cx) (pu : Bool) (e : Expr) (t : DTE) : Prop := PE X e (sE X.K pu t)
def TPost (K : PySem.W.Frag) (pu : Bool) (σ : L2.St) (h H : Hp) (G : En) (fp : List Addr) (Q : En → Bool → Prop) : Bool → Hp → Prop := fun b H' => ∃ h' G' fp', Stt K h' H' G' σ fp' ∧ Ext h H fp h' H' fp' ∧ (pu = true → G' = G ∧ fp' = fp ∧ ∀ a ∈ fp, H' a = H a) ∧ Q G' b
def sT (K : PySem.W.Frag) (pu : Bool) (t : DTT) : TT := fun σ H Q' => ∃ h G fp Q, Stt K h H G σ fp ∧ t G Q ∧ ∀ b H', TPost K pu σ h H G fp Q b H' → Q' b H'
def DT (X : Cx) (pu : Bool) (e : Expr) (t : DTT) : Prop := PT X e (sT X.K pu t)
theorem pe_imp {X : Cx} {e : Expr} {t t' : TE} (h : PE X e t) (k : ∀ σ H Q, t' σ H Q → t σ H Q) : PE X e t' := ⟨fun pins s σ H Q I q => h.run pins s σ H Q I (k σ H Q q)⟩
theorem pt_imp {X : Cx} {e : Expr} {t t' : TT} (h : PT X e t) (k : ∀ σ H Q, t' σ H Q → t σ H Q) : PT X e t' := ⟨fun pins s σ H Q I q => h.run pins s σ H Q I (k σ H Q q)⟩
theorem pa_imp {X : Cx} {e : List Expr} {t t' : TA} (h : PA X e t) (k : ∀ σ H Q, t' σ H Q → t σ H Q) : PA X e t' := ⟨fun pos pins s σ H Q I q => h.run pos pins s σ H Q I (k σ H Q q)⟩
theorem ps_imp {X : Cx} {e : Stmt} {t t' : TS} (h : PS X e t) (k : ∀ D σ H, t' D σ H → t D σ H) : PS X e t' := ⟨fun pins s σ H D I q => h.run pins s σ H D I (k D σ H q)⟩
theorem pss_imp {X : Cx} {e : List Stmt} {t t' : TS} (h : PSs X e t) (k : ∀ D σ H, t' D σ H → t D σ H) : PSs X e t' := ⟨fun pins s σ H D I q => h.run pins s σ H D I (k D σ H q)⟩
def T.flat : T → Option D
  | .fz x => some x
  | .ls l => some (.lst l)
  | .dk l => some (.dK l)
  | .dt l => some (.dT l)
  | _ => none
/-- readable now: the root in H, the items frozen -/
inductive AtR (K : PySem.W.Frag) (h H : Hp) : D → V → Prop
  | of {d v} : At K h d v → AtR K h H d v
  | ls {a ds vs} : H a = some (.lst vs) → Ats K h ds vs → AtR K h H (.lst ds) (.ref a)
  | dk {a l m} : Rd H a (.dK m) → AtK K h l m → AtR K h H (.dK l) (.ref a)
  | dt {a l m} : Rd H a (.dT m) → AtT K h l m → AtR K h H (.dT l) (.ref a)
def fzT (t : T) (k : D → Prop) : Prop := t.calm = true ∧ k t.toD
def fzW (G : En) (vl : Vl) (k : En → D → Prop) : Prop :=
  match vl with
  | .t t => fzT t (k G)
  | .pk i p => (match atE G i p with | some t => fzT t fun d => k (setE G i p (.fz d)) d | none => False)
def rdT (t : T) (k : D → Prop) : Prop := match t.flat with | some d => k d | none => False
def rdW (G : En) (vl : Vl) (k : D → Prop) : Prop :=
  match vl with
  | .t t => rdT t k
  | .pk i p => (match atE G i p with | some t => rdT t k | none => False)
section
variable {K : PySem.W.Frag} {pu : Bool} {σ : L2.St} {h H h' H' : Hp} {G G' : En} {fp fp' fv : List Addr} {vl : Vl} {v : V}
theorem Own.rd {t : T} {d : D} (o : Own K h H t v fp) (e : t.flat = some d) : AtR K h H d v := by
  cases o with
  | fz x => cases e; exact .of x
  | ls a b c => cases e; exact .ls b c
  | dk a b c => cases e; exact .dk (.inl b) c
  | dt a b c => cases e; exact .dt (.inl b) c
  | ll _ _ _ => cases e
  | dm _ _ _ => cases e
  | ins _ _ _ _ _ => cases e
  | tu _ _ => cases e
theorem rdT_of {t : T} {k : D → Prop} (w : rdT t k) : ∃ d, t.flat = some d ∧ k d := by
  unfold rdT at w
  split at w
  · exact ⟨_, by assumption, w⟩
  · exact w.elim
theorem OwnV.rd {k : D → Prop} (S : Stt K h H G σ fp) (o : OwnV K h H G σ vl v fv) (w : rdW G vl k) : ∃ d, AtR K h H d v ∧ k d := by
  cases o with
  | t o =>
    obtain ⟨d, e, q⟩ := rdT_of w
    exact ⟨d, o.rd e, q⟩
  | pk l e =>
    simp only [rdW, e] at w
    obtain ⟨d, e2, q⟩ := rdT_of w
    obtain ⟨f1, fc, f2, _, oc, _⟩ := S.env.loc e l
    exact ⟨d, oc.rd e2, q⟩
theorem froz_sub (s : Sub h H) (n : ∀ a ∈ fv, ∃ o, H a = some o) : Sub (froz h H fv) H := fun a o e => by
  by_cases m : a ∈ fv
  · rw [froz_in m] at e; exact .inl e
  · rw [froz_out m] at e; exact s a o e
theorem perm_mid {α : Type} (a b c : List α) : (a ++ b ++ c).Perm (a ++ c ++ b) := by
  rw [List.append_assoc, List.append_assoc]; exact List.Perm.append_left a List.perm_append_comm
/-- the value is frozen: what is known behind it -/
theorem Res.fz {k : En → D → Prop} (r : Res K pu σ h H G fp h' H' G' fp' vl v fv) (w : fzW G' vl k) :
    ∃ h2 G2 fp2 d, Stt K h2 H' G2 σ fp2 ∧ At K h2 d v ∧ Ext h H fp h2 H' fp2 ∧ k G2 d := by
  obtain ⟨st, ov, nd, ex, _⟩ := r
  cases ov with
  | @t t v fv o =>
    obtain ⟨c, q⟩ := w
    have th := o.there
    have sm : Same h' (froz h' H' fv) := froz_same fun a m => (th a m).1
    have nn : ∀ a ∈ fp', froz h' H' fv a = none := fun a m => by
      rw [froz_out (fun m2 => (List.nodup_append.mp nd).2.2 a m a m2 rfl)]
      exact (st.env.there a m).1
    refine ⟨froz h' H' fv, G', fp', t.toD, ⟨froz_sub st.sub fun a m => (th a m).2, st.env.move sm (fun _ _ => rfl) nn, st.nd⟩, o.freeze sm (fun a m => froz_in m) c, ⟨ex.gh.trans sm, fun a o m e => (ex.fr a o m e).imp id fun ⟨d, x, u, hu⟩ => ⟨d, x, u, sm a u hu⟩, fun a m => ex.nw a (by simp [m]), fun a u e => ?_⟩, q⟩
    by_cases m : a ∈ fv
    · exact .inr ((ex.nw a (by simp [m])).imp id .inl)
    · rw [froz_out m] at e; exact ex.hn a u e
  | @pk i p v t l e =>
    simp only [fzW, e] at w
    obtain ⟨c, q⟩ := w
    obtain ⟨f1, fc, f2, ef, o, put⟩ := st.env.loc e l
    have th := o.there
    have sm : Same h' (froz h' H' fc) := froz_same fun a m => (th a m).1
    have ndf : (f1 ++ f2 ++ fc).Nodup := (perm_mid f1 fc f2).nodup_iff.mp (ef ▸ st.nd)
    have nn : ∀ a ∈ f1 ++ f2, froz h' H' fc a = none := fun a m => by
      rw [froz_out (fun m2 => (List.nodup_append.mp ndf).2.2 a m a m2 rfl)]
      exact (st.env.there a (by rw [ef]; simp at m ⊢; rcases m with m | m <;> simp [m])).1
    have p2 := put (froz h' H' fc) H' (.fz t.toD) [] sm (fun a m => ⟨rfl, nn a m⟩) (.fz (o.freeze sm (fun a m => froz_in m) c))
    rw [List.append_nil] at p2
    refine ⟨froz h' H' fc, _, f1 ++ f2, t.toD, ⟨froz_sub st.sub fun a m => (th a m).2, p2, (List.nodup_append.mp ndf).1⟩, o.freeze sm (fun a m => froz_in m) c, ⟨ex.gh.trans sm, fun a o m e => (ex.fr a o m e).imp id fun ⟨d, x, u, hu⟩ => ⟨d, x, u, sm a u hu⟩, fun a m => ex.nw a (by rw [ef]; simp at m ⊢; rcases m with m | m <;> simp [m]), fun a u e => ?_⟩, q⟩
    by_cases m : a ∈ fc
    · exact .inr ((ex.nw a (by rw [ef]; simp [m])).imp id .inl)
    · rw [froz_out m] at e; exact ex.hn a u e
/-- .. a temporary tree: the environment stays -/
theorem Res.fzt {t : T} {k : En → D → Prop} (r : Res K pu σ h H G fp h' H' G' fp' (.t t) v fv) (w : fzW G' (.t t) k) :
    ∃ h2 d, Stt K h2 H' G' σ fp' ∧ At K h2 d v ∧ Ext h H fp h2 H' fp' ∧ k G' d := by
  obtain ⟨st, ov, nd, ex, _⟩ := r
  cases ov with
  | t o =>
    obtain ⟨c, q⟩ := w
    have th := o.there
    have sm : Same h' (froz h' H' fv) := froz_same fun a m => (th a m).1
    have nn : ∀ a ∈ fp', froz h' H' fv a = none := fun a m => by
      rw [froz_out (fun m2 => (List.nodup_append.mp nd).2.2 a m a m2 rfl)]
      exact (st.env.there a m).1
    refine ⟨froz h' H' fv, t.toD, ⟨froz_sub st.sub fun a m => (th a m).2, st.env.move sm (fun _ _ => rfl) nn, st.nd⟩, o.freeze sm (fun a m => froz_in m) c, ⟨ex.gh.trans sm, fun a o m e => (ex.fr a o m e).imp id fun ⟨d, x, u, hu⟩ => ⟨d, x, u, sm a u hu⟩, fun a m => ex.nw a (by simp [m]), fun a u e => ?_⟩, q⟩
    by_cases m : a ∈ fv
    · exact .inr ((ex.nw a (by simp [m])).imp id .inl)
    · rw [froz_out m] at e; exact ex.hn a u e
theorem Res.drop (r : Res K pu σ h H G fp h' H' G' fp' vl v fv) : Ext h H fp h' H' fp' := r.ex.weak fun a m => by simp [m]
/-- a place stays one where nothing owned has changed -/
theorem LocV.keep {i : Nat} {p : Option Stp} {t : T} (S : Stt K h H G σ fp) (e : atE G i p = some t) (l : LocV H σ i p v) (kp : ∀ a ∈ fp, H' a = H a) : LocV H' σ i p v := by
  obtain ⟨v0, e0, l⟩ := l
  refine ⟨v0, e0, ?_⟩
  cases p with
  | none => exact l
  | some s =>
    unfold atE at e
    split at e
    · rename_i t0 eg
      obtain ⟨f1, fc, f2, ef, oc, _, _⟩ := S.env.slot eg e0
      have kc : ∀ a ∈ fc, H' a = H a := fun a m => kp a (by rw [ef]; simp [m])
      obtain ⟨a, rfl, l⟩ := l
      have hr : a ∈ fc := by
        cases oc with
        | fz x => cases s <;> simp [T.kid] at e
        | ls _ _ _ => simp
        | dk _ _ _ => simp
        | dt _ _ _ => simp
        | ll _ _ _ => simp
        | dm _ _ _ => simp
        | ins _ _ _ _ _ => simp
        | tu _ _ => cases s <;> simp [T.kid] at e
      refine ⟨a, rfl, ?_⟩
      cases s with
      | ix k => obtain ⟨vs, e1, e2⟩ := l; exact ⟨vs, (kc a hr).trans e1, e2⟩
      | ky k => obtain ⟨vs, e1, e2⟩ := l; exact ⟨vs, (kc a hr).trans e1, e2⟩
      | fd k => obtain ⟨C, dx, vs, e1, e2⟩ := l; exact ⟨C, dx, vs, (kc a hr).trans e1, e2⟩
    · cases e
end
/-- what a step of a rule leaves: new things alone -/
structure OpRes (K : PySem.W.Frag) (h H h' H' : Hp) (t : T) (v : V) (fv : List Addr) : Prop where
  gh : Same h h'
  sub : Sub h' H'
  fr : Same H H'
  own : Own K h' H' t v fv
  nd : fv.Nodup
  new : ∀ a ∈ fv, H a = none
  hn : ∀ a o, h' a = some o → h a = some o ∨ H a = none
def OpPost (K : PySem.W.Frag) (h H : Hp) (R : T → Prop) : VK := fun v H' => ∃ h' t fv, OpRes K h H h' H' t v fv ∧ R t
abbrev D1 := D → (T → Prop) → Prop
abbrev D2 := D → D → (T → Prop) → Prop
abbrev DN := List D → (T → Prop) → Prop
/-- several arguments, readable -/
inductive AtRs (K : PySem.W.Frag) (h H : Hp) : List D → List V → Prop
  | nil : AtRs K h H [] []
  | cons {d ds v vs} : AtR K h H d v → AtRs K h H ds vs → AtRs K h H (d :: ds) (v :: vs)
def rOf (K : PySem.W.Frag) (k : D2) : R2 := fun x y H Q' => ∃ h dx dy R, Sub h H ∧ AtR K h H dx x ∧ AtR K h H dy y ∧ k dx dy R ∧ ∀ v H', OpPost K h H R v H' → Q' v H'
def rOf1 (K : PySem.W.Frag) (k : D1) : V → Hp → VK → Prop := fun x H Q' => ∃ h dx R, Sub h H ∧ AtR K h H dx x ∧ k dx R ∧ ∀ v H', OpPost K h H R v H' → Q' v H'
def rOfN (K : PySem.W.Frag) (k : DN) : List V → Hp → VK → Prop := fun xs H Q' => ∃ h ds R, Sub h H ∧ AtRs K h H ds xs ∧ k ds R ∧ ∀ v H', OpPost K h H R v H' → Q' v H'
def OpK (X : Cx) (f : Value → Value → Sem Value) (k : D2) : Prop := OpR X f (rOf X.K k)
def UnK (X : Cx) (f : Value → Sem Value) (k : D1) : Prop := UnR X f (rOf1 X.K k)
def CaK (X : Cx) (f : Value) (k : DN) : Prop := CallR X f (rOfN X.K k)
section
variable {K : PySem.W.Frag} {h H h' H' : Hp} {v : V} {fv : List Addr} {t : T} {R : T → Prop}
/-- a value without a place -/
theorem OpPost.plain {d : D} (s : Sub h H) (a : At K h d v) (q : R (.fz d)) : OpPost K h H R v H :=
  ⟨h, .fz d, [], ⟨Same.refl h, s, Same.refl H, .fz a, .nil, (fun _ m => nomatch m), fun _ _ e => .inl e⟩, q⟩
/-- a new list, its items frozen -/
theorem OpPost.list {p : Addr} {ds : List D} {vs : List V} (s : Sub h H) (np : H p = none) (a : Ats K h ds vs) (q : R (.ls ds)) : OpPost K h H R (.ref p) (upd H p (.lst vs)) := by
  have hp : h p = none := by
    cases e : h p with
    | none => rfl
    | some o => obtain ⟨u, q⟩ := s.there e; rw [np] at q; cases q
  refine ⟨h, .ls ds, [p], ⟨Same.refl h, fun a o e => ?_, fun a o e => ?_, .ls hp upd_same a, by simp, by simpa using np, fun _ _ e => .inl e⟩, q⟩
  · rw [upd_ne (fun z => by subst z; rw [hp] at e; cases e)]; exact s a o e
  · rw [upd_ne (ne_of_none e np)]; exact e
/-- a new tuple -/
theorem OpPost.tup {p : Addr} {ds : List D} {vs : List V} (s : Sub h H) (np : H p = none) (a : Ats K h ds vs) (q : R (.fz (.tup ds))) : OpPost K h H R (.ref p) (upd H p (.tup vs)) := by
  have hp : h p = none := by
    cases e : h p with
    | none => rfl
    | some o => obtain ⟨u, q⟩ := s.there e; rw [np] at q; cases q
  have sm : Same h (upd h p (.tup vs)) := fun a o e => by rw [upd_ne (ne_of_none e hp)]; exact e
  refine ⟨upd h p (.tup vs), .fz (.tup ds), [], ⟨sm, fun a o e => ?_, fun a o e => ?_, .fz (.tup upd_same (a.mono sm)), .nil, (fun _ m => nomatch m), fun a o e => ?_⟩, q⟩
  · by_cases z : a = p
    · subst z; rw [upd_same] at e ⊢; exact .inl e
    · rw [upd_ne z] at e ⊢; exact s a o e
  · rw [upd_ne (ne_of_none e np)]; exact e
  · by_cases z : a = p
    · subst z; exact .inr np
    · rw [upd_ne z] at e; exact .inl e
end
def dConst (t : T) : DTE := fun G Q => Q G (.t t)
def dVar (i : Nat) : DTE := fun G Q => match G[i]? with
  | some (some (.fz d)) => Q G (.t (.fz d))
  | some (some t) => Q G (.pk i none)
  | _ => False
/-- two operands, then what is made of them -/
def dBin (k : D2) (pb : Bool) (ta tb : DTE) : DTE := fun G Q => ta G fun G1 va =>
  match va, pb with
  | .pk i p, true => tb G1 fun G2 vb => rdW G2 (.pk i p) fun x => rdW G2 vb fun y => k x y fun t => Q G2 (.t t)
  | va, _ => fzW G1 va fun G1' x => tb G1' fun G2 vb => rdW G2 vb fun y => k x y fun t => Q G2 (.t t)
def dUn (k : D1) (ta : DTE) : DTE := fun G Q => ta G fun G1 va => rdW G1 va fun x => k x fun t => Q G1 (.t t)
section
variable {X : Cx} {pa pb : Bool} {a b e : Expr} {ta tb : DTE} {pos : Pos}
theorem res_const {K : PySem.W.Frag} {h H : Hp} {G : En} {σ : L2.St} {fp : List Addr} {d : D} {v : V} (S : Stt K h H G σ fp) (r : At K h d v) : Res K true σ h H G fp h H G fp (.t (.fz d)) v [] :=
  ⟨S, .t (.fz r), by simpa using S.nd, by simpa using Ext.refl h H fp, fun _ => ⟨rfl, rfl, fun _ _ => rfl⟩⟩
theorem de_const {v : V} {d : D} (p : PE X e (tC v)) (r : ∀ h, At X.K h d v) : DE X true e (dConst (.fz d)) := pe_imp p fun σ H Q ⟨h, G, fp, Q', S, w, k⟩ =>
  k _ _ ⟨h, G, fp, _, [], res_const S (r h), w⟩
theorem de_int {i j pos} : DE X true (.Constant (.int i) j pos) (dConst (.fz (.int i))) := de_const pe_int fun _ => .int
theorem de_bl {i j pos} : DE X true (.Constant (.bool i) j pos) (dConst (.fz (.bl i))) := de_const pe_bl fun _ => .bl
theorem de_non {j pos} : DE X true (.Constant .none j pos) (dConst (.fz .non)) := de_const pe_non fun _ => .non
theorem de_var {i : Nat} (p : PE X e (tVar i)) : DE X true e (dVar i) := pe_imp p fun σ H Q ⟨h, G, fp, Q', S, w, k⟩ => by
  unfold dVar at w
  split at w
  · rename_i d eg
    obtain ⟨v, ev⟩ := S.env.has eg
    obtain ⟨f1, fc, f2, ef, o, _⟩ := S.env.slot eg ev
    cases o with
    | fz x => exact ⟨v, ev, k _ _ ⟨h, G, fp, _, [], res_const S x, w⟩⟩
  · rename_i t _ eg
    obtain ⟨v, ev⟩ := S.env.has eg
    refine ⟨v, ev, k _ _ ⟨h, G, fp, _, [], ⟨S, .pk (t := t) ⟨v, ev, rfl⟩ ?_, by simpa using S.nd, by simpa using Ext.refl h H fp, fun _ => ⟨rfl, rfl, fun _ _ => rfl⟩⟩, w⟩⟩
    simp [atE, eg]
  · exact w.elim
theorem OpRes.res {K : PySem.W.Frag} {pu : Bool} {σ : L2.St} {h H h1 H1 h' H' : Hp} {G G1 : En} {fp f1 fv : List Addr} {t : T} {v : V} (S : Stt K h1 H1 G1 σ f1) (ex : Ext h H fp h1 H1 f1)
    (pu1 : pu = true → G1 = G ∧ f1 = fp ∧ ∀ a ∈ fp, H1 a = H a) (o : OpRes K h1 H1 h' H' t v fv) : Res K pu σ h H G fp h' H' G1 f1 (.t t) v fv := by
  have th := S.env.there
  have hk : ∀ a ∈ f1, H' a = H1 a := fun a m => by obtain ⟨_, u, e⟩ := th a m; rw [e]; exact o.fr a u e
  have hn : ∀ a ∈ f1, h' a = none := fun a m => by
    obtain ⟨n, u, e⟩ := th a m
    cases q : h' a with
    | none => rfl
    | some z =>
      rcases o.hn a z q with r | r
      · rw [n] at r; cases r
      · rw [e] at r; cases r
  have dj : ∀ a ∈ f1, a ∉ fv := fun a m m2 => by
    obtain ⟨_, u, e⟩ := th a m
    rw [o.new a m2] at e; cases e
  have nd2 : (f1 ++ fv).Nodup := List.nodup_append.mpr ⟨S.nd, o.nd, fun x hx y hy e => dj x hx (e ▸ hy)⟩
  refine ⟨⟨o.sub, S.env.move o.gh hk hn, S.nd⟩, .t o.own, nd2, ?_, fun p => ?_⟩
  · refine ex.trans ⟨o.gh, fun a u m e => .inl (o.fr a u e), fun a m => ?_, fun a u e => ?_⟩
    · rcases List.mem_append.mp m with m | m
      · exact .inl m
      · exact .inr (o.new a m)
    · rcases o.hn a u e with r | r
      · exact .inl r
      · exact .inr (.inr (.inl r))
  · obtain ⟨p1, p2, p3⟩ := pu1 p
    exact ⟨p1, p2, fun a m => (hk a (p2 ▸ m)).trans (p3 a m)⟩
theorem bin_imp {K : PySem.W.Frag} {k : D2} {σ : L2.St} {H : Hp} {Q : VK} (w : sE K (pa && pb) (dBin k pb ta tb) σ H Q) : tOp (rOf K k) (sE K pa ta) (sE K pb tb) σ H Q := by
  obtain ⟨h, G, fp, Q', S, w, c⟩ := w
  refine ⟨h, G, fp, _, S, w, fun v H1 ⟨h1, G1, f1, va, fva, r1, w1⟩ => ?_⟩
  have gen : (fzW G1 va fun G1' x => tb G1' fun G2 vb => rdW G2 vb fun y => k x y fun t => Q' G2 (.t t)) → (pb = true → ∃ t, va = .t t) → sE K pb tb σ H1 fun y H2 => rOf K k v y H2 Q := fun w0 hpb => by
    have key : ∃ h2 G2 f2 d, Stt K h2 H1 G2 σ f2 ∧ At K h2 d v ∧ Ext h H fp h2 H1 f2 ∧ ((pa && pb) = true → G2 = G ∧ f2 = fp ∧ ∀ a ∈ fp, H1 a = H a) ∧ tb G2 fun G2 vb => rdW G2 vb fun y => k d y fun t => Q' G2 (.t t) := by
      cases hp : pb with
      | true =>
        obtain ⟨t, rfl⟩ := hpb hp
        subst hp
        obtain ⟨h2, d, S2, a2, e2, q2⟩ := r1.fzt w0
        exact ⟨h2, G1, f1, d, S2, a2, e2, fun z => r1.pu (by simpa using z), q2⟩
      | false =>
        obtain ⟨h2, G2, f2, d, S2, a2, e2, q2⟩ := r1.fz w0
        subst hp
        exact ⟨h2, G2, f2, d, S2, a2, e2, fun z => by simp at z, q2⟩
    obtain ⟨h2, G2, f2, d, S2, a2, e2, pu2, w2⟩ := key
    refine ⟨h2, G2, f2, _, S2, w2, fun u H3 ⟨h3, G3, f3, vb, fvb, r3, w3⟩ => ?_⟩
    obtain ⟨y, ay, w4⟩ := r3.ov.rd r3.st w3
    refine ⟨h3, d, y, _, r3.st.sub, .of (a2.mono r3.ex.gh), ay, w4, fun v' H' ⟨h', t, fv, o, q⟩ => ?_⟩
    refine c v' H' ⟨h', G3, f3, .t t, fv, o.res r3.st (e2.trans r3.drop) (fun z => ?_), q⟩
    have zb : pb = true := (Bool.and_eq_true _ _ ▸ z : pa = true ∧ pb = true).2
    obtain ⟨q1, q2, q3⟩ := pu2 z
    obtain ⟨p1, p2, p3⟩ := r3.pu zb
    exact ⟨p1.trans q1, p2.trans q2, fun a m => (p3 a (q2 ▸ m)).trans (q3 a m)⟩
  dsimp only at w1
  split at w1
  · rename_i i p
    refine ⟨h1, G1, f1, _, r1.st, w1, fun u H3 ⟨h3, G3, f3, vb, fvb, r3, w3⟩ => ?_⟩
    obtain ⟨p1, p2, p3⟩ := r3.pu rfl
    subst p1 p2
    cases r1.ov with
    | pk l e =>
      have l3 := l.keep r1.st e p3
      obtain ⟨x, ax, w3⟩ := OwnV.rd r3.st (.pk l3 e) w3
      obtain ⟨y, ay, w4⟩ := r3.ov.rd r3.st w3
      refine ⟨h3, x, y, _, r3.st.sub, ax, ay, w4, fun v' H' ⟨h', t, fv, o, q⟩ => ?_⟩
      refine c v' H' ⟨h', G3, f3, .t t, fv, o.res r3.st (r1.drop.trans r3.drop) (fun z => ?_), q⟩
      obtain ⟨q1, q2, q3⟩ := r1.pu (by simpa using z)
      exact ⟨q1, q2, fun a m => (p3 a (q2 ▸ m)).trans (q3 a m)⟩
  · rename_i va' pb' hx
    refine gen w1 fun z => ?_
    cases va with
    | t t => exact ⟨t, rfl⟩
    | pk i p => exact (hx i p rfl z).elim
theorem de_bin {op : Operator} {k : D2} (o : OpK X (binaryOp op) k) (ha : DE X pa a ta) (hb : DE X pb b tb) : DE X (pa && pb) (.BinOp a op b pos) (dBin k pb ta tb) :=
  pe_imp (pe_op o ha hb) fun _ _ _ w => bin_imp w
theorem de_cmp {op : CmpOp} {k : D2} (o : OpK X (compareOp op) k) (hm : behindInMarks op b = false) (ha : DE X pa a ta) (hb : DE X pb b tb) : DE X (pa && pb) (.Compare a [op] [b] pos) (dBin k pb ta tb) :=
  pe_imp (pe_cmpR o ha hb hm) fun _ _ _ w => bin_imp w
theorem un_imp {K : PySem.W.Frag} {k : D1} {σ : L2.St} {H : Hp} {Q : VK} (w : sE K pa (dUn k ta) σ H Q) : tUn (rOf1 K k) (sE K pa ta) σ H Q := by
  obtain ⟨h, G, fp, Q', S, w, c⟩ := w
  refine ⟨h, G, fp, _, S, w, fun v H1 ⟨h1, G1, f1, va, fva, r1, w1⟩ => ?_⟩
  obtain ⟨x, ax, w2⟩ := r1.ov.rd r1.st w1
  exact ⟨h1, x, _, r1.st.sub, ax, w2, fun v' H' ⟨h', t, fv, o, q⟩ => c v' H' ⟨h', G1, f1, .t t, fv, o.res r1.st r1.drop r1.pu, q⟩⟩
theorem de_un {op : UnaryOp} {k : D1} (o : UnK X (unaryOp op) k) (ha : DE X pa a ta) : DE X pa (.UnaryOp op a pos) (dUn k ta) :=
  pe_imp (pe_un o ha) fun _ _ _ w => un_imp w
end
end DL
namespace DL
open PySem PySem.Spec L2
def isB (d : D) (k : Bool → Prop) : Prop := match d with | .bl b => k b | _ => False
def dVal (te : DTE) : DTT := fun G Q => te G fun G1 v => rdW G1 v fun d => isB d fun b => Q G1 b
def dAnd (t u : DTT) : DTT := fun G Q => t G fun G1 c => if c = true then u G1 Q else Q G1 false
def dOr (t u : DTT) : DTT := fun G Q => t G fun G1 c => if c = true then Q G1 true else u G1 Q
def dNot (t : DTT) : DTT := fun G Q => t G fun G1 c => Q G1 (!c)
def dIfE (t : DTT) (u v : DTE) : DTE := fun G Q => t G fun G1 c => if c = true then u G1 Q else v G1 Q
/-- a test as a value -/
def dOfT (t : DTT) : DTE := fun G Q => t G fun G1 c => Q G1 (.t (.fz (.bl c)))
theorem isB_of {d : D} {k : Bool → Prop} (w : isB d k) : ∃ b, d = .bl b ∧ k b := by
  cases d <;> first | exact w.elim | exact ⟨_, rfl, w⟩
theorem AtR.bl {K : PySem.W.Frag} {h H : Hp} {b : Bool} {v : V} (a : AtR K h H (.bl b) v) : v = .bl b := by
  cases a with
  | of a => cases a; rfl
theorem AtR.int {K : PySem.W.Frag} {h H : Hp} {b : Int} {v : V} (a : AtR K h H (.int b) v) : v = .int b := by
  cases a with
  | of a => cases a; rfl
theorem AtR.str {K : PySem.W.Frag} {h H : Hp} {b : Str} {v : V} (a : AtR K h H (.str b) v) : v = .str b := by
  cases a with
  | of a => cases a; rfl
theorem AtR.non {K : PySem.W.Frag} {h H : Hp} {v : V} (a : AtR K h H .non v) : v = .non := by
  cases a with
  | of a => cases a; rfl
section
variable {X : Cx} {pa pb pc : Bool} {a b e c : Expr} {ta tb te : DTE} {t u : DTT} {pos : Pos} {rest : List Expr}
theorem val_imp {K : PySem.W.Frag} {σ : L2.St} {H : Hp} {Q : Bool → Hp → Prop} (w : sT K pa (dVal te) σ H Q) : tTest (sE K pa te) σ H Q := by
  obtain ⟨h, G, fp, Q', S, w, c⟩ := w
  refine ⟨h, G, fp, _, S, w, fun v H1 ⟨h1, G1, f1, va, fva, r1, w1⟩ => ?_⟩
  obtain ⟨x, ax, w2⟩ := r1.ov.rd r1.st w1
  obtain ⟨b, rfl, w3⟩ := isB_of w2
  exact ⟨b, ax.bl, c b H1 ⟨h1, G1, f1, r1.st, r1.drop, r1.pu, w3⟩⟩
theorem dt_val (h : DE X pa e te) (he : ∀ whole, isTrue e X.env whole = (do let v ← whole; standAt e.pos; holding [v] (truthy v)) := by intro _; rfl) : DT X pa e (dVal te) :=
  pt_imp (pt_val h he) fun _ _ _ w => val_imp w
theorem dt_cmp {op : CmpOp} {k : D2} (o : OpK X (compareOp op) k) (hm : behindInMarks op b = false) (ha : DE X pa a ta) (hb : DE X pb b tb) : DT X (pa && pb) (.Compare a [op] [b] pos) (dVal (dBin k pb ta tb)) := by
  refine pt_imp (pt_cmpR o ha hb hm) fun σ H Q w => ?_
  have q := val_imp w
  obtain ⟨h, G, fp, Q', S, w, c⟩ := q
  exact bin_imp ⟨h, G, fp, Q', S, w, c⟩
structure DW (X : Cx) (pu : Bool) (e : Expr) (t : DTT) : Prop where
  run : PW X e (sT X.K pu t)
theorem pw_imp {X : Cx} {e : Expr} {t t' : TT} (h : PW X e t) (k : ∀ σ H Q, t' σ H Q → t σ H Q) : PW X e t' := ⟨fun wh pins s σ H Q I q => h.run wh pins s σ H Q I (k σ H Q q)⟩
theorem DW.dt (h : DW X pa e t) : DT X pa e t := h.run.pt
theorem dw_and1 (h : DT X pa a t) : DW X pa (.BoolOp .And [a] pos) t := ⟨pw_and1 h⟩
theorem dw_or1 (h : DT X pa a t) : DW X pa (.BoolOp .Or [a] pos) t := ⟨pw_or1 h⟩
theorem andT_imp {K : PySem.W.Frag} {σ : L2.St} {H : Hp} {Q : Bool → Hp → Prop} (w : sT K (pa && pb) (dAnd t u) σ H Q) : tAnd (sT K pa t) (sT K pb u) σ H Q := by
  obtain ⟨h, G, fp, Q', S, w, c⟩ := w
  refine ⟨h, G, fp, _, S, w, fun b H1 ⟨h1, G1, f1, S1, e1, p1, w1⟩ => ?_⟩
  cases b with
  | true =>
    rw [if_pos rfl] at w1 ⊢
    refine ⟨h1, G1, f1, _, S1, w1, fun b H2 ⟨h2, G2, f2, S2, e2, p2, w2⟩ => c b H2 ⟨h2, G2, f2, S2, e1.trans e2, fun z => ?_, w2⟩⟩
    rw [Bool.and_eq_true] at z
    obtain ⟨q1, q2, q3⟩ := p1 z.1
    obtain ⟨r1, r2, r3⟩ := p2 z.2
    exact ⟨r1.trans q1, r2.trans q2, fun a m => (r3 a (q2 ▸ m)).trans (q3 a m)⟩
  | false =>
    rw [if_neg Bool.false_ne_true] at w1 ⊢
    exact c false H1 ⟨h1, G1, f1, S1, e1, fun z => p1 (by rw [Bool.and_eq_true] at z; exact z.1), w1⟩
theorem orT_imp {K : PySem.W.Frag} {σ : L2.St} {H : Hp} {Q : Bool → Hp → Prop} (w : sT K (pa && pb) (dOr t u) σ H Q) : tOr (sT K pa t) (sT K pb u) σ H Q := by
  obtain ⟨h, G, fp, Q', S, w, c⟩ := w
  refine ⟨h, G, fp, _, S, w, fun b H1 ⟨h1, G1, f1, S1, e1, p1, w1⟩ => ?_⟩
  cases b with
  | false =>
    rw [if_neg Bool.false_ne_true] at w1 ⊢
    refine ⟨h1, G1, f1, _, S1, w1, fun b H2 ⟨h2, G2, f2, S2, e2, p2, w2⟩ => c b H2 ⟨h2, G2, f2, S2, e1.trans e2, fun z => ?_, w2⟩⟩
    rw [Bool.and_eq_true] at z
    obtain ⟨q1, q2, q3⟩ := p1 z.1
    obtain ⟨r1, r2, r3⟩ := p2 z.2
    exact ⟨r1.trans q1, r2.trans q2, fun a m => (r3 a (q2 ▸ m)).trans (q3 a m)⟩
  | true =>
    rw [if_pos rfl] at w1 ⊢
    exact c true H1 ⟨h1, G1, f1, S1, e1, fun z => p1 (by rw [Bool.and_eq_true] at z; exact z.1), w1⟩
theorem dw_and (ha : DT X pa a t) (hb : DW X pb (.BoolOp .And (b :: rest) pos) u) : DW X (pa && pb) (.BoolOp .And (a :: b :: rest) pos) (dAnd t u) := ⟨pw_imp (pw_and ha hb.run) fun _ _ _ w => andT_imp w⟩
theorem dw_or (ha : DT X pa a t) (hb : DW X pb (.BoolOp .Or (b :: rest) pos) u) : DW X (pa && pb) (.BoolOp .Or (a :: b :: rest) pos) (dOr t u) := ⟨pw_imp (pw_or ha hb.run) fun _ _ _ w => orT_imp w⟩
theorem dt_not (ha : DT X pa a t) : DT X pa (.UnaryOp .Not a pos) (dNot t) := pt_imp (pt_not ha) fun σ H Q ⟨h, G, fp, Q', S, w, c⟩ =>
  ⟨h, G, fp, _, S, w, fun b H1 ⟨h1, G1, f1, S1, e1, p1, w1⟩ => c (!b) H1 ⟨h1, G1, f1, S1, e1, p1, w1⟩⟩
/-- a value whose kind is a truth, from what a test says -/
def dBV (te : DTE) : DTE := fun G Q => te G fun G1 v => rdW G1 v fun d => isB d fun b => Q G1 (.t (.fz (.bl b)))
def dAndV (ta tb : DTE) : DTE := fun G Q => ta G fun G1 v => rdW G1 v fun d => isB d fun b => if b = true then tb G1 Q else Q G1 (.t (.fz (.bl false)))
def dOrV (ta tb : DTE) : DTE := fun G Q => ta G fun G1 v => rdW G1 v fun d => isB d fun b => if b = true then Q G1 (.t (.fz (.bl true))) else tb G1 Q
def dNotV (ta : DTE) : DTE := fun G Q => ta G fun G1 v => rdW G1 v fun d => isB d fun b => Q G1 (.t (.fz (.bl (!b))))
theorem de_one {op} (h : DE X pa a ta) : DE X pa (.BoolOp op [a] pos) ta := pe_one h
theorem res_bl {K : PySem.W.Frag} {σ : L2.St} {h H h1 H1 : Hp} {G G1 : En} {fp f1 : List Addr} {b : Bool} (S : Stt K h1 H1 G1 σ f1) (ex : Ext h H fp h1 H1 f1) (pu1 : pa = true → G1 = G ∧ f1 = fp ∧ ∀ a ∈ fp, H1 a = H a) :
    Res K pa σ h H G fp h1 H1 G1 f1 (.t (.fz (.bl b))) (.bl b) [] := ⟨S, .t (.fz .bl), by simpa using S.nd, by simpa using ex, pu1⟩
theorem Res.chain {K : PySem.W.Frag} {σ : L2.St} {h H h1 H1 h2 H2 : Hp} {G G1 G2 : En} {fp f1 f2 fv : List Addr} {vl : Vl} {v : V} (e1 : Ext h H fp h1 H1 f1) (p1 : pa = true → G1 = G ∧ f1 = fp ∧ ∀ a ∈ fp, H1 a = H a) (r : Res K pb σ h1 H1 G1 f1 h2 H2 G2 f2 vl v fv) :
    Res K (pa && pb) σ h H G fp h2 H2 G2 f2 vl v fv := ⟨r.st, r.ov, r.nd, e1.trans r.ex, fun z => by
      rw [Bool.and_eq_true] at z
      obtain ⟨q1, q2, q3⟩ := p1 z.1
      obtain ⟨r1, r2, r3⟩ := r.pu z.2
      exact ⟨r1.trans q1, r2.trans q2, fun a m => (r3 a (q2 ▸ m)).trans (q3 a m)⟩⟩
theorem Res.weak {K : PySem.W.Frag} {σ : L2.St} {h H h2 H2 : Hp} {G G2 : En} {fp f2 fv : List Addr} {vl : Vl} {v : V} (r : Res K pa σ h H G fp h2 H2 G2 f2 vl v fv) (s : pb = true → pa = true) : Res K pb σ h H G fp h2 H2 G2 f2 vl v fv :=
  ⟨r.st, r.ov, r.nd, r.ex, fun z => r.pu (s z)⟩
theorem de_and (ha : DE X pa a ta) (hb : DE X pb (.BoolOp .And (b :: rest) pos) tb) : DE X (pa && pb) (.BoolOp .And (a :: b :: rest) pos) (dAndV ta tb) := by
  refine pe_imp (pe_and ha hb) fun σ H Q ⟨h, G, fp, Q', S, w, c⟩ => ?_
  refine ⟨h, G, fp, _, S, w, fun v H1 ⟨h1, G1, f1, va, fva, r1, w1⟩ => ?_⟩
  obtain ⟨x, ax, w2⟩ := r1.ov.rd r1.st w1
  obtain ⟨b, rfl, w3⟩ := isB_of w2
  refine ⟨b, ax.bl, ?_⟩
  cases b with
  | true =>
    rw [if_pos rfl] at w3 ⊢
    exact ⟨h1, G1, f1, _, r1.st, w3, fun u H2 ⟨h2, G2, f2, vb, fvb, r2, w4⟩ => c u H2 ⟨h2, G2, f2, vb, fvb, .chain r1.drop r1.pu r2, w4⟩⟩
  | false =>
    rw [if_neg Bool.false_ne_true] at w3 ⊢
    exact c _ H1 ⟨h1, G1, f1, _, [], (res_bl r1.st r1.drop r1.pu).weak (fun z => (Bool.and_eq_true _ _ ▸ z : pa = true ∧ pb = true).1), w3⟩
theorem de_or (ha : DE X pa a ta) (hb : DE X pb (.BoolOp .Or (b :: rest) pos) tb) : DE X (pa && pb) (.BoolOp .Or (a :: b :: rest) pos) (dOrV ta tb) := by
  refine pe_imp (pe_or ha hb) fun σ H Q ⟨h, G, fp, Q', S, w, c⟩ => ?_
  refine ⟨h, G, fp, _, S, w, fun v H1 ⟨h1, G1, f1, va, fva, r1, w1⟩ => ?_⟩
  obtain ⟨x, ax, w2⟩ := r1.ov.rd r1.st w1
  obtain ⟨b, rfl, w3⟩ := isB_of w2
  refine ⟨b, ax.bl, ?_⟩
  cases b with
  | false =>
    rw [if_neg Bool.false_ne_true] at w3 ⊢
    exact ⟨h1, G1, f1, _, r1.st, w3, fun u H2 ⟨h2, G2, f2, vb, fvb, r2, w4⟩ => c u H2 ⟨h2, G2, f2, vb, fvb, .chain r1.drop r1.pu r2, w4⟩⟩
  | true =>
    rw [if_pos rfl] at w3 ⊢
    exact c _ H1 ⟨h1, G1, f1, _, [], (res_bl r1.st r1.drop r1.pu).weak (fun z => (Bool.and_eq_true _ _ ▸ z : pa = true ∧ pb = true).1), w3⟩
end
inductive AV where
  | d (x : D) | sl (i : Nat)
inductive AVs (K : PySem.W.Frag) (h : Hp) (σ : L2.St) : List AV → List V → Prop
  | nil : AVs K h σ [] []
  | d {x v as vs} : At K h x v → AVs K h σ as vs → AVs K h σ (.d x :: as) (v :: vs)
  | sl {i v as vs} : σ[i]? = some (some v) → AVs K h σ as vs → AVs K h σ (.sl i :: as) (v :: vs)
theorem AVs.mono {K : PySem.W.Frag} {h h' : Hp} {σ : L2.St} (s : Same h h') : ∀ {as vs}, AVs K h σ as vs → AVs K h' σ as vs
  | _, _, .nil => .nil
  | _, _, .d a r => .d (a.mono s) (r.mono s)
  | _, _, .sl e r => .sl e (r.mono s)
abbrev DTA := En → (En → List AV → Prop) → Prop
def APost (K : PySem.W.Frag) (pu : Bool) (σ : L2.St) (h H : Hp) (G : En) (fp : List Addr) (Q : En → List AV → Prop) : List V → Hp → Prop := fun vs H' => ∃ h' G' fp' as, Stt K h' H' G' σ fp' ∧ AVs K h' σ as vs ∧ Ext h H fp h' H' fp' ∧ (pu = true → G' = G ∧ fp' = fp ∧ ∀ a ∈ fp, H' a = H a) ∧ Q G' as
def sA (K : PySem.W.Frag) (pu : Bool) (t : DTA) : TA := fun σ H Q' => ∃ h G fp Q, Stt K h H G σ fp ∧ t G Q ∧ ∀ vs H', APost K pu σ h H G fp Q vs H' → Q' vs H'
def DA (X : Cx) (pu : Bool) (es : List Expr) (t : DTA) : Prop := PA X es (sA X.K pu t)
def dNil : DTA := fun G Q => Q G []
/-- an argument that is frozen -/
def dACons (te : DTE) (ta : DTA) : DTA := fun G Q => te G fun G1 v => fzW G1 v fun G2 x => ta G2 fun G3 as => Q G3 (.d x :: as)
/-- .. a value of its own: the environment stays -/
def fzP (G : En) (vl : Vl) (k : En → D → Prop) : Prop := match vl with | .t t => fzW G (.t t) k | .pk _ _ => False
def dAConsP (te : DTE) (ta : DTA) : DTA := fun G Q => te G fun G1 v => fzP G1 v fun G2 x => ta G2 fun G3 as => Q G3 (.d x :: as)
/-- a name that is lent -/
def dALend (i : Nat) (ta : DTA) : DTA := fun G Q => (∃ t, G[i]? = some (some t)) ∧ ta G fun G3 as => Q G3 (.sl i :: as)
section
variable {X : Cx} {pa pb : Bool} {e : Expr} {es : List Expr} {te : DTE} {ta : DTA} {pos : Pos}
theorem da_nil : DA X true [] dNil := pa_imp pa_nil fun σ H Q ⟨h, G, fp, Q', S, w, c⟩ => c [] H ⟨h, G, fp, [], S, .nil, Ext.refl h H fp, fun _ => ⟨rfl, rfl, fun _ _ => rfl⟩, w⟩
theorem da_cons (he : DE X pa e te) (ha : DA X pb es ta) (hs : starEach (e :: es) X.env = (false, eval e X.env) :: starEach es X.env := by rfl) : DA X false (e :: es) (dACons te ta) := by
  refine pa_imp (pa_cons he ha hs) fun σ H Q ⟨h, G, fp, Q', S, w, c⟩ => ?_
  refine ⟨h, G, fp, _, S, w, fun v H1 ⟨h1, G1, f1, va, fva, r1, w1⟩ => ?_⟩
  obtain ⟨h2, G2, f2, d, S2, a2, e2, w2⟩ := r1.fz w1
  refine ⟨h2, G2, f2, _, S2, w2, fun vs H3 ⟨h3, G3, f3, as, S3, av, e3, p3, w3⟩ => ?_⟩
  exact c _ H3 ⟨h3, G3, f3, _, S3, .d (a2.mono e3.gh) av, e2.trans e3, (fun z => by cases z), w3⟩
theorem da_consP (he : DE X pa e te) (ha : DA X pb es ta) (hs : starEach (e :: es) X.env = (false, eval e X.env) :: starEach es X.env := by rfl) : DA X (pa && pb) (e :: es) (dAConsP te ta) := by
  refine pa_imp (pa_cons he ha hs) fun σ H Q ⟨h, G, fp, Q', S, w, c⟩ => ?_
  refine ⟨h, G, fp, _, S, w, fun v H1 ⟨h1, G1, f1, va, fva, r1, w1⟩ => ?_⟩
  cases va with
  | pk i p => exact w1.elim
  | t t =>
    have w1 : fzW G1 (.t t) (fun G2 x => ta G2 fun G3 as => Q' G3 (.d x :: as)) := w1
    obtain ⟨h2, d, S2, a2, e2, w2⟩ := r1.fzt w1
    refine ⟨h2, G1, f1, _, S2, w2, fun vs H3 ⟨h3, G3, f3, as, S3, av, e3, p3, w3⟩ => ?_⟩
    refine c _ H3 ⟨h3, G3, f3, _, S3, .d (a2.mono e3.gh) av, e2.trans e3, fun z => ?_, w3⟩
    rw [Bool.and_eq_true] at z
    obtain ⟨q1, q2, q3⟩ := r1.pu z.1
    obtain ⟨z1, z2, z3⟩ := p3 z.2
    exact ⟨z1.trans q1, z2.trans q2, fun a m => (z3 a (q2 ▸ m)).trans (q3 a m)⟩
theorem da_lend {i : Nat} (he : PE X e (tVar i)) (ha : DA X pb es ta) (hs : starEach (e :: es) X.env = (false, eval e X.env) :: starEach es X.env := by rfl) : DA X pb (e :: es) (dALend i ta) := by
  refine pa_imp (pa_cons he ha hs) fun σ H Q ⟨h, G, fp, Q', S, ⟨⟨t, eg⟩, w⟩, c⟩ => ?_
  obtain ⟨v, ev⟩ := S.env.has eg
  refine ⟨v, ev, h, G, fp, _, S, w, fun vs H3 ⟨h3, G3, f3, as, S3, av, e3, p3, w3⟩ => ?_⟩
  exact c _ H3 ⟨h3, G3, f3, _, S3, .sl ev av, e3, p3, w3⟩
def avD : List AV → Option (List D)
  | [] => some []
  | .d x :: r => (avD r).map (x :: ·)
  | .sl _ :: _ => none
theorem avD_at {K : PySem.W.Frag} {h : Hp} {σ : L2.St} : ∀ {as vs ds}, AVs K h σ as vs → avD as = some ds → Ats K h ds vs
  | _, _, _, .nil, e => by cases e; exact .nil
  | _, _, _, .d a r, e => by
    simp only [avD, Option.map_eq_some_iff] at e
    obtain ⟨ds, e1, rfl⟩ := e
    exact .cons a (avD_at r e1)
  | _, _, _, .sl _ _, e => by cases e
theorem Ats.length {K : PySem.W.Frag} {h : Hp} : ∀ {ds vs}, Ats K h ds vs → ds.length = vs.length
  | _, _, .nil => rfl
  | _, _, .cons _ r => by simp [Ats.length r]
def withD (as : List AV) (k : List D → Prop) : Prop := match avD as with | some ds => k ds | none => False
theorem withD_of {as : List AV} {k : List D → Prop} (w : withD as k) : ∃ ds, avD as = some ds ∧ k ds := by
  unfold withD at w
  split at w
  · exact ⟨_, by assumption, w⟩
  · exact w.elim
def dTup (ta : DTA) : DTE := fun G Q => ta G fun G1 as => withD as fun ds => ds.length ≤ 1000 ∧ Q G1 (.t (.fz (.tup ds)))
def dLst (ta : DTA) : DTE := fun G Q => ta G fun G1 as => withD as fun ds => ds.length ≤ 1000 ∧ Q G1 (.t (.ls ds))
theorem OpPost.res {K : PySem.W.Frag} {pu : Bool} {σ : L2.St} {h H h1 H1 H' : Hp} {G G1 : En} {fp f1 : List Addr} {v : V} {R : T → Prop} {Q : En → Vl → Prop} (S : Stt K h1 H1 G1 σ f1) (ex : Ext h H fp h1 H1 f1)
    (pu1 : pu = true → G1 = G ∧ f1 = fp ∧ ∀ a ∈ fp, H1 a = H a) (o : OpPost K h1 H1 R v H') (q : ∀ t, R t → Q G1 (.t t)) : EPost K pu σ h H G fp Q v H' := by
  obtain ⟨h', t, fv, o, r⟩ := o
  exact ⟨h', G1, f1, .t t, fv, o.res S ex pu1, q t r⟩
theorem de_tup {x1} (ha : DA X pa es ta) : DE X pa (.Tuple es x1 pos) (dTup ta) := by
  refine pe_imp (pe_tup ha) fun σ H Q ⟨h, G, fp, Q', S, w, c⟩ => ?_
  refine ⟨h, G, fp, _, S, w, fun vs H1 ⟨h1, G1, f1, as, S1, av, e1, p1, w1⟩ => ?_⟩
  obtain ⟨ds, ed, hl, w2⟩ := withD_of w1
  have ad := avD_at av ed
  refine ⟨by rw [← ad.length]; exact Nat.le_trans hl (by decide), fun p np => c _ _ ?_⟩
  exact OpPost.res S1 e1 p1 (R := fun t => t = .fz (.tup ds)) (OpPost.tup S1.sub np ad rfl) fun t e => e ▸ w2
theorem de_lst (ha : DA X pa es ta) : DE X pa (.List es pos) (dLst ta) := by
  refine pe_imp (pe_lst ha) fun σ H Q ⟨h, G, fp, Q', S, w, c⟩ => ?_
  refine ⟨h, G, fp, _, S, w, fun vs H1 ⟨h1, G1, f1, as, S1, av, e1, p1, w1⟩ => ?_⟩
  obtain ⟨ds, ed, hl, w2⟩ := withD_of w1
  have ad := avD_at av ed
  refine ⟨by rw [← ad.length]; exact Nat.le_trans hl (by decide), fun p np => c _ _ ?_⟩
  exact OpPost.res S1 e1 p1 (R := fun t => t = .ls ds) (OpPost.list S1.sub np ad rfl) fun t e => e ▸ w2
def dCB (k : DN) (ta : DTA) : DTE := fun G Q => ta G fun G1 as => withD as fun ds => k ds fun t => Q G1 (.t t)
theorem Ats.r {K : PySem.W.Frag} {h H : Hp} : ∀ {ds vs}, Ats K h ds vs → AtRs K h H ds vs
  | _, _, .nil => .nil
  | _, _, .cons a r => .cons (.of a) r.r
theorem cb_imp {K : PySem.W.Frag} {k : DN} {σ : L2.St} {H : Hp} {Q : VK} (w : sE K pa (dCB k ta) σ H Q) : tCB (rOfN K k) (sA K pa ta) σ H Q := by
  obtain ⟨h, G, fp, Q', S, w, c⟩ := w
  refine ⟨h, G, fp, _, S, w, fun vs H1 ⟨h1, G1, f1, as, S1, av, e1, p1, w1⟩ => ?_⟩
  obtain ⟨ds, ed, w2⟩ := withD_of w1
  exact ⟨h1, ds, _, S1.sub, (avD_at av ed).r, w2, fun v' H' o => c v' H' (o.res S1 e1 p1 fun t q => q)⟩
/-- one argument that is read, not frozen -/
def dCB1 (k : D1) (te : DTE) : DTE := dUn k te
theorem cb1_imp {K : PySem.W.Frag} {k : DN} {k1 : D1} {σ : L2.St} {H : Hp} {Q : VK} (hk : ∀ x R, k1 x R → k [x] R) (w : sE K pa (dCB1 k1 te) σ H Q) : tCB (rOfN K k) (tCons (sE K pa te) tNil) σ H Q := by
  obtain ⟨h, G, fp, Q', S, w, c⟩ := w
  refine ⟨h, G, fp, _, S, w, fun v H1 ⟨h1, G1, f1, va, fva, r1, w1⟩ => ?_⟩
  obtain ⟨x, ax, w2⟩ := r1.ov.rd r1.st w1
  exact ⟨h1, [x], _, r1.st.sub, .cons ax .nil, hk _ _ w2, fun v' H' o => c v' H' (o.res r1.st r1.drop r1.pu fun t q => q)⟩
end
end DL
namespace DL
open PySem PySem.Spec PyProof.Rows L2
/-- the promise, asked where nothing is being shown -/
structure FnG (P : Program) (w : World) (K : PySem.W.Frag) (mg : Str → Option Value) (base : Heap) (k : Nat) (f : Addr) (fd : FuncData) (ps : List Str) (sp : Sp) : Prop where
  len : ∀ vs H Q E, sp vs H Q E → vs.length = ps.length
  run : ∀ (A : Around) (outer : List Env) (s : Shared) (H : Hp) (args : Args) (us : List Value) (vs : List V) (Q : VK) (E : XK), A.guards = some [] → Room k A → Env0 P w K mg base A outer s H →
    BindsTo s fd args (ps.zip us) → Vals vs us → sp vs H Q E → codeAny (model P w) A (.call (.ref f) args) (CR C8.CX0 outer P w H s Q E) s
/-- a def of the text by its body -/
theorem fnG_of {P : Program} {w : World} {K : PySem.W.Frag} {mg : Str → Option Value} {base : Heap} {x qual : Str} {st : Stmt} {f : Addr} {fd : FuncData} {N ps : List Str} {k : Nat} {sp : Sp} (F : C8.Fun K x qual st f fd) (S : FnScope N ps (C8.fnScope st))
    (len : ∀ vs H Q E, sp vs H Q E → vs.length = ps.length)
    (hbody : ∀ (cdv : Value) (A : Around) (outer : List Env) (s : Shared) (H : Hp) (vs : List V) (Q : VK) (E : XK), A.guards = some [] → Room k (A.deeper (envOfC qual (C8.fnScope st) s.heap.objs.size f cdv)) → sp vs H Q E →
      ∃ t, PSs (cxOf C8.CX0 P w K mg base N qual (C8.fnScope st) f cdv A outer s H E).nox (C8.fnBody st) t ∧ t { nx := fun _ H' => Q .non H', rt := Q } (L2.start N vs) H) : FnG P w K mg base (k + 1) f fd ps sp := by
  obtain ⟨oc, od, dV, kV, doc, pm, an, cdv, ct, osl, rfl, lk, code⟩ := F.ex
  refine ⟨len, fun A outer s H args us vs Q E quiet room e0 bd rel asks => ?_⟩
  have many := len _ _ _ _ asks
  have inK : K.In s.heap := e0.mod.kin.keeps fun b o q => (e0.bs b o q).1
  have names : ∀ y ∈ ps.zip us, (C8.fnScope st).names.lookup y.1 = some .local ∨ ((C8.fnScope st).names.lookup y.1 = some .cell ∧ ((cellsFrom (s.heap.objs.size + 1) (C8.fnScope st).names []).lookup y.1).isSome = true) := by
    rintro ⟨n, u⟩ m
    refine (S.par n (List.of_mem_zip m).1).imp id fun q => ⟨q, PySem.W.cellsFrom_some _ _ _ (.inl q)⟩
  refine codeAny_call_function room.depth (inK _ _ lk) rfl S.co S.gen rfl (PySem.W.codeRec_of inK code) (bd _ _ _ _ (wpAny_newFunctionEnv_cells S.kind names fun env he s1 x => ?_))
  subst he
  obtain ⟨t, pt, got⟩ := hbody cdv A outer s H vs Q E quiet (room.deeper _) asks
  have start0 : Inv (cxOf C8.CX0 P w K mg base N qual (C8.fnScope st) f cdv A outer s H E) [] (L2.start N vs) H s1 := inv_start S room.hd e0 many rel x
  refine ⟨(e0.mod.nolimit.keeps fun b o q => (e0.bs b o q).1).keeps x.toInCall.keep, codeAny_func (wpAny_mono (pt.nox.run [] s1 (L2.start N vs) H _ start0 got) (fun fl s' hs => ?_) fun e s' q => q)⟩
  cases fl with
  | ret u => obtain ⟨v, σ', H', J, rv, q⟩ := hs; exact ⟨v, H', J.os, J.bare, J.base, J.hok, rv, q⟩
  | next => obtain ⟨σ', H', J, q⟩ := hs; exact ⟨.non, H', J.os, J.bare, J.base, J.hok, rfl, q⟩
  | brk => obtain ⟨_, _, _, q⟩ := hs; exact q.elim
  | cont => obtain ⟨_, _, _, q⟩ := hs; exact q.elim
/-- a def that may be called by its name -/
def CalG (P : Program) (w : World) (K : PySem.W.Frag) (mg : Str → Option Value) (base : Heap) (k : Nat) (x : Str) (sp : Sp) : Prop :=
  ∃ (f : Addr) (fd : FuncData) (ps : List Str), FnG P w K mg base k f fd ps sp ∧ mg x = some (.ref f) ∧ PySem.W.keepIn K (.ref f) = true ∧ Binds K fd ps []
section
variable {X : Cx} {k j : Nat} {x : Str} {sp : Sp} {p pos : Pos} {e : Expr} {es : List Expr} {t : TA}
theorem runG {f : Addr} {fd : FuncData} {ps : List Str} {pins : List (Addr × Obj)} {σ : L2.St} {H : Hp} {s : Shared} {Q : VK} {us : List Value} {vs : List V} (F : FnG X.prog X.w X.K X.mg X.base k f fd ps sp) (hgd : X.A.guards = some []) (hr : Room k X.A) (hb : Binds X.K fd ps [])
    (I : Inv X pins σ H s) (r : Vals vs us) (h : sp vs H Q C8.E0) : wpAny (model X.prog X.w) X.A (call (.ref f) us) (EP X pins σ Q) X.xe s := by
  have bd := hb s us I.kIn (by rw [List.append_nil, ← r.length]; exact F.len _ _ _ _ h)
  rw [List.append_nil] at bd
  refine wpAny_call (codeAny_mono (F.run X.A X.stack s H _ us vs Q C8.E0 hgd hr I.env0 bd r h) fun res s' q => ?_)
  match res, q with
  | .ok (.ret u), q => exact I.after q
  | .ok .next, q => exact False.elim q
  | .ok .brk, q => exact False.elim q
  | .ok .cont, q => exact False.elim q
  | .error e, q => exact False.elim q
theorem pe_g (c : CalG X.prog X.w X.K X.mg X.base k x sp) (hgd : X.A.guards = some []) (hr : Room j X.A) (hk : k ≤ j) (hg : Gl X x) (ha : PA X (e :: es) t)
    (hdb : (x == ("__debug__" : Str)) = false := by decide) (he : starEach (e :: es) X.env = (false, eval e X.env) :: starEach es X.env := by rfl) (hpl : (backTo pos (starEach es X.env)).any (·.1) = false := by rfl) :
    PE X (.Call (.Name x p) (e :: es) [] pos) (tCall sp [] C8.E0 t) := by
  obtain ⟨f, fd, ps, F, hm, kp, b⟩ := c
  refine ⟨fun pins s σ H Q I w => wpAny_Call_Name_kw (ld_glob I hg hm ?_ hdb)⟩
  refine PySem.W.callWith_K (h₀ := X.base) I.ok.mod.kin kp (thn (ha.run pos pins s σ H _ I w) fun us s1 got => ?_) he hpl
  obtain ⟨vs, H1, J, r, q⟩ := got
  have q : sp (vs ++ []) H1 Q C8.E0 := q
  rw [List.append_nil] at q
  exact ⟨J.kIn, runG F hgd (hr.mono hk) b J r q⟩
end
end DL
namespace DL
open PySem PySem.Spec L2
abbrev FS := List T → (En → T → Prop) → Prop
def spOf (K : PySem.W.Frag) (n m : Nat) (F : FS) : Sp := fun vs H Q _ => vs.length = n ∧ ∃ h ts fp R, Sub h H ∧ Owns K h H ts vs fp ∧ fp.Nodup ∧ F ts R ∧
  ∀ v H' h' outs t fo fv, Sub h' H' → OwnE K h' H' outs ((vs.take m).map some) fo → Own K h' H' t v fv → (fo ++ fv).Nodup → Ext h H fp h' H' (fo ++ fv) → R outs t → Q v H'
def lendE : En → List AV → Option (List T × En)
  | G, [] => some ([], G)
  | G, .d x :: r => (lendE G r).map fun p => (.fz x :: p.1, p.2)
  | G, .sl i :: r => (match G[i]? with | some (some t) => (lendE (G.set i none) r).map fun p => (t :: p.1, p.2) | _ => none)
def backE : En → List AV → En → En
  | G, .sl i :: r, o :: outs => backE (G.set i o) r outs
  | G, .d _ :: r, _ :: outs => backE G r outs
  | G, _, _ => G
section
variable {K : PySem.W.Frag} {h H h' H' : Hp}
theorem set_same {α : Type} {l : List α} {i : Nat} {a : α} (e : l[i]? = some a) : l.set i a = l := by
  obtain ⟨hi, rfl⟩ := List.getElem?_eq_some_iff.mp e
  exact List.set_getElem_self hi
theorem OwnE.store {G : En} {σ : L2.St} {fp fc : List Addr} {i : Nat} {t : T} {v : V} (o : OwnE K h H G σ fp) (hi : i < G.length) (ot : Own K h H t v fc) (nd : (fp ++ fc).Nodup) :
    ∃ fp', OwnE K h H (G.set i (some t)) (σ.set i (some v)) fp' ∧ fp'.Nodup ∧ ∀ a ∈ fp', a ∈ fp ++ fc := by
  obtain ⟨f1, o1, s1⟩ := OwnE.cut i (some v) o
  obtain ⟨f2, o2, p2⟩ := o1.put (by rw [List.getElem?_set_self hi]) ot
  rw [List.set_set, List.set_set] at o2
  have sl : (f1 ++ fc).Sublist (fp ++ fc) := s1.append (.refl _)
  exact ⟨f2, o2, p2.nodup_iff.mpr (sl.nodup nd), fun a m => sl.subset (p2.mem_iff.mp m)⟩
theorem lend_ok {σ : L2.St} : ∀ {as : List AV} {vs : List V} {G : En} {fp : List Addr} {ts : List T} {Gr : En}, AVs K h σ as vs → OwnE K h H G σ fp → lendE G as = some (ts, Gr) →
    ∃ fa fr, Owns K h H ts vs fa ∧ OwnE K h H Gr σ fr ∧ (fa ++ fr).Perm fp
  | _, _, G, fp, _, _, .nil, o, e => by cases e; exact ⟨[], fp, .nil, o, .refl _⟩
  | _, _, G, fp, _, _, .d a r, o, e => by
    simp only [lendE, Option.map_eq_some_iff, Prod.mk.injEq] at e
    obtain ⟨⟨ts, Gr⟩, e1, rfl, rfl⟩ := e
    obtain ⟨fa, fr, o1, o2, p⟩ := lend_ok r o e1
    exact ⟨[] ++ fa, fr, .cons (.fz a) o1, o2, p⟩
  | .sl i :: _, v :: _, G, fp, _, _, .sl ev r, o, e => by
    simp only [lendE] at e
    split at e
    · rename_i t eg
      simp only [Option.map_eq_some_iff, Prod.mk.injEq] at e
      obtain ⟨⟨ts, Gr⟩, e1, rfl, rfl⟩ := e
      obtain ⟨f1, fc, f2, ef, oc, _, cut⟩ := o.slot eg ev
      have o' := cut (some v)
      rw [set_same ev] at o'
      obtain ⟨fa, fr, o1, o2, p⟩ := lend_ok r o' e1
      refine ⟨fc ++ fa, fr, .cons oc o1, o2, ?_⟩
      rw [ef, List.append_assoc, List.append_assoc]
      exact (List.Perm.append_left fc p).trans (by rw [← List.append_assoc, ← List.append_assoc]; exact List.Perm.append_right f2 List.perm_append_comm)
    · cases e
theorem back_ok {σ : L2.St} : ∀ {as : List AV} {vs : List V} (m : Nat) {G : En} {fp fo : List Addr} {outs : En}, AVs K h' σ as vs → OwnE K h H G σ fp → OwnE K h H outs ((vs.take m).map some) fo → (fp ++ fo).Nodup →
    ∃ f', OwnE K h H (backE G as outs) σ f' ∧ f'.Nodup ∧ ∀ a ∈ f', a ∈ fp ++ fo
  | _, _, _, G, fp, fo, outs, .nil, o, oo, nd => ⟨fp, by cases outs <;> exact o, (List.nodup_append.mp nd).1, fun a m => by simp [m]⟩
  | _, _, 0, G, fp, fo, outs, .d a r, o, oo, nd => by
    cases oo
    exact ⟨fp, o, (List.nodup_append.mp nd).1, fun a m => by simp [m]⟩
  | _, _, 0, G, fp, fo, outs, .sl a r, o, oo, nd => by
    cases oo
    exact ⟨fp, o, (List.nodup_append.mp nd).1, fun a m => by simp [m]⟩
  | _, _, m + 1, G, fp, fo, _, .d a r, o, .no oo, nd => by
    have q := back_ok m r o oo nd
    exact q
  | _, _, m + 1, G, fp, _, _, .d a r, o, .so (f1 := g1) (f2 := g2) ot oo, nd => by
    have sl : (fp ++ g2).Sublist (fp ++ (g1 ++ g2)) := (List.Sublist.refl fp).append (List.sublist_append_right g1 g2)
    obtain ⟨f', o2, n2, s2⟩ := back_ok m r o oo (sl.nodup nd)
    exact ⟨f', o2, n2, fun a m => sl.subset (s2 a m)⟩
  | .sl i :: _, _, m + 1, G, fp, fo, _, .sl ev r, o, .no oo, nd => by
    obtain ⟨f1, o1, s1⟩ := OwnE.cut i (some _) o
    rw [set_same ev] at o1
    have sl : (f1 ++ fo).Sublist (fp ++ fo) := s1.append (.refl _)
    obtain ⟨f', o2, n2, s2⟩ := back_ok m r o1 oo (sl.nodup nd)
    exact ⟨f', o2, n2, fun a m => sl.subset (s2 a m)⟩
  | .sl i :: _, _, m + 1, G, fp, _, _, .sl ev r, o, .so (f1 := g1) (f2 := g2) ot oo, nd => by
    have hi : i < G.length := by
      rw [o.length]; exact (List.getElem?_eq_some_iff.mp ev).1
    rw [← List.append_assoc] at nd
    obtain ⟨f1, o1, n1, s1⟩ := o.store hi ot (List.nodup_append.mp nd).1
    rw [set_same ev] at o1
    have nd2 : (f1 ++ g2).Nodup := List.nodup_append.mpr ⟨n1, (List.nodup_append.mp nd).2.1, fun x hx y hy => (List.nodup_append.mp nd).2.2 x (s1 x hx) y hy⟩
    obtain ⟨f', o2, n2, s2⟩ := back_ok m r o1 oo nd2
    refine ⟨f', o2, n2, fun a ma => ?_⟩
    rcases List.mem_append.mp (s2 a ma) with q | q
    · have := s1 a q; simp at this ⊢; rcases this with z | z <;> simp [z]
    · simp [q]
end
/-- what holds behind a call: the parts that weren't lent stay -/
theorem call_ext {K : PySem.W.Frag} {h H h' H' : Hp} {σ : L2.St} {G Gr : En} {fp fa fr fn : List Addr} (S : Stt K h H G σ fp) (o : OwnE K h H Gr σ fr) (p : (fa ++ fr).Perm fp) (ex : Ext h H fa h' H' fn) (nd : fn.Nodup) :
    OwnE K h' H' Gr σ fr ∧ (fr ++ fn).Nodup ∧ Ext h H fp h' H' (fr ++ fn) := by
  have ndp : (fa ++ fr).Nodup := p.nodup_iff.mpr S.nd
  have dj : ∀ a ∈ fr, a ∉ fa := fun a m m2 => (List.nodup_append.mp ndp).2.2 a m2 a m rfl
  have sub : ∀ a ∈ fa, a ∈ fp := fun a m => p.mem_iff.mp (by simp [m])
  have subr : ∀ a ∈ fr, a ∈ fp := fun a m => p.mem_iff.mp (by simp [m])
  have hk : ∀ a ∈ fr, H' a = H a ∧ h' a = none := fun a m => by
    obtain ⟨n, u, e⟩ := o.there a m
    have hn0 : h' a = none := by
     cases q : h' a with
     | none => rfl
     | some z =>
      rcases ex.hn a z q with r | r | r
      · rw [n] at r; cases r
      · exact (dj a m r).elim
      · exact (r.no e (o.nobad a m)).elim
    exact ⟨by rw [e]; exact ex.stay hn0 (dj a m) e, hn0⟩
  refine ⟨o.move ex.gh (fun a m => (hk a m).1) fun a m => (hk a m).2, List.nodup_append.mpr ⟨(List.nodup_append.mp ndp).2.1, nd, fun x hx y hy e => ?_⟩, ⟨ex.gh, fun a u m e => ex.fr a u (fun z => m (sub a z)) e, fun a m => ?_, fun a u e => ?_⟩⟩
  · subst e
    rcases ex.nw x hy with q | q
    · exact dj x hx q
    · obtain ⟨_, u, e⟩ := o.there x hx
      rw [q] at e; cases e
  · rcases List.mem_append.mp m with m | m
    · exact .inl (subr a m)
    · rcases ex.nw a m with q | q
      · exact .inl (sub a q)
      · exact .inr q
  · rcases ex.hn a u e with q | q | q
    · exact .inl q
    · exact .inr (.inl (sub a q))
    · exact .inr (.inr q)
def dCall (n : Nat) (F : FS) (ta : DTA) : DTE := fun G Q => ta G fun G1 as => as.length = n ∧ (match lendE G1 as with
  | some p => F p.1 fun outs t => Q (backE p.2 as outs) (.t t)
  | none => False)
/-- .. nothing lent -/
def dCallP (n : Nat) (F : FS) (ta : DTA) : DTE := fun G Q => ta G fun G1 as => withD as fun ds => ds.length = n ∧ F (ds.map .fz) fun _ t => Q G1 (.t t)
theorem Ats.owns {K : PySem.W.Frag} {h H : Hp} : ∀ {ds vs}, Ats K h ds vs → Owns K h H (ds.map .fz) vs []
  | _, _, .nil => .nil
  | _, _, .cons a r => by simpa using Owns.cons (.fz a) (Ats.owns r)
section
variable {X : Cx} {pa : Bool} {ta : DTA} {x : Str} {n m k j : Nat} {F : FS} {e : Expr} {es : List Expr} {p pos : Pos}
theorem AVs.length {K : PySem.W.Frag} {h : Hp} {σ : L2.St} : ∀ {as vs}, AVs K h σ as vs → as.length = vs.length
  | _, _, .nil => rfl
  | _, _, .d _ r => by simp [AVs.length r]
  | _, _, .sl _ r => by simp [AVs.length r]
def Fn (P : Program) (w : World) (K : PySem.W.Frag) (mg : Str → Option Value) (base : Heap) (k : Nat) (x : Str) (n m : Nat) (F : FS) : Prop := CalG P w K mg base k x (spOf K n m F)
/-- the call's end -/
theorem call_end {K : PySem.W.Frag} {σ : L2.St} {h1 H1 : Hp} {G1 : En} {f1 : List Addr} {as : List AV} {vs : List V} {h H : Hp} {G : En} {fp : List Addr} {Q : VK} {Q' : En → Vl → Prop} {E : XK} (S1 : Stt K h1 H1 G1 σ f1) (av : AVs K h1 σ as vs) (e1 : Ext h H fp h1 H1 f1) (hn : as.length = n)
    (w : match lendE G1 as with | some p => F p.1 fun outs t => Q' (backE p.2 as outs) (.t t) | none => False) (c : ∀ v H', EPost K false σ h H G fp Q' v H' → Q v H') : spOf K n m F vs H1 Q E := by
  split at w
  · rename_i pr ep
    obtain ⟨ts, Gr⟩ := pr
    obtain ⟨fa, fr, oa, or, pm⟩ := lend_ok av S1.env ep
    have ndp : (fa ++ fr).Nodup := pm.nodup_iff.mpr S1.nd
    refine ⟨by rw [← av.length]; exact hn, h1, ts, fa, _, S1.sub, oa, (List.nodup_append.mp ndp).1, w, fun v H' h' outs t fo fv sb oo ot nd ex q => c v H' ?_⟩
    obtain ⟨or', nd2, ex2⟩ := call_ext S1 or pm ex nd
    rw [← List.append_assoc] at nd2
    obtain ⟨f', ob, nb, sbs⟩ := back_ok m av or' oo (List.nodup_append.mp nd2).1
    have nd3 : (f' ++ fv).Nodup := List.nodup_append.mpr ⟨nb, (List.nodup_append.mp nd2).2.1, fun y hy z hz => (List.nodup_append.mp nd2).2.2 y (sbs y hy) z hz⟩
    refine ⟨h', _, f', .t t, fv, ⟨⟨sb, ob, nb⟩, .t ot, nd3, e1.trans (ex2.weak fun a ma => ?_), fun z => by cases z⟩, q⟩
    rcases List.mem_append.mp ma with q | q
    · have := sbs a q; simp at this ⊢; rcases this with z | z <;> simp [z]
    · simp [q]
  · exact w.elim
theorem de_call (f : Fn X.prog X.w X.K X.mg X.base k x n m F) (hgd : X.A.guards = some []) (hr : Room j X.A) (hk : k ≤ j) (hg : Gl X x) (ha : DA X pa (e :: es) ta)
    (hdb : (x == ("__debug__" : Str)) = false := by decide) (he : starEach (e :: es) X.env = (false, eval e X.env) :: starEach es X.env := by rfl) (hpl : (backTo pos (starEach es X.env)).any (·.1) = false := by rfl) :
    DE X false (.Call (.Name x p) (e :: es) [] pos) (dCall n F ta) := by
  refine pe_imp (pe_g f hgd hr hk hg ha hdb he hpl) fun σ H Q ⟨h, G, fp, Q', S, w, c⟩ => ?_
  refine ⟨h, G, fp, _, S, w, fun vs H1 ⟨h1, G1, f1, as, S1, av, e1, p1, hl, w1⟩ => ?_⟩
  show spOf X.K n m F (vs ++ []) H1 Q C8.E0
  rw [List.append_nil]
  exact call_end S1 av e1 hl w1 c
theorem de_callP (f : Fn X.prog X.w X.K X.mg X.base k x n 0 F) (hgd : X.A.guards = some []) (hr : Room j X.A) (hk : k ≤ j) (hg : Gl X x) (ha : DA X pa (e :: es) ta)
    (hdb : (x == ("__debug__" : Str)) = false := by decide) (he : starEach (e :: es) X.env = (false, eval e X.env) :: starEach es X.env := by rfl) (hpl : (backTo pos (starEach es X.env)).any (·.1) = false := by rfl) :
    DE X pa (.Call (.Name x p) (e :: es) [] pos) (dCallP n F ta) := by
  refine pe_imp (pe_g f hgd hr hk hg ha hdb he hpl) fun σ H Q ⟨h, G, fp, Q', S, w, c⟩ => ?_
  refine ⟨h, G, fp, _, S, w, fun vs H1 ⟨h1, G1, f1, as, S1, av, e1, p1, w1⟩ => ?_⟩
  show spOf X.K n 0 F (vs ++ []) H1 Q C8.E0
  rw [List.append_nil]
  obtain ⟨ds, ed, hl, w2⟩ := withD_of w1
  have ad := avD_at av ed
  refine ⟨by rw [← ad.length]; exact hl, h1, _, [], _, S1.sub, ad.owns, .nil, w2, fun v H' h' outs t fo fv sb oo ot nd ex q => c v H' ?_⟩
  obtain ⟨or', nd2, ex2⟩ := call_ext S1 S1.env (by simp) ex nd
  cases oo
  simp only [List.nil_append] at nd2 ex2
  refine ⟨h', G1, f1, .t t, fv, ⟨⟨sb, or', S1.nd⟩, .t ot, nd2, e1.trans ex2, fun z => ?_⟩, q⟩
  obtain ⟨q1, q2, q3⟩ := p1 z
  refine ⟨q1, q2, fun a ma => ?_⟩
  obtain ⟨nn, u, eu⟩ := S1.env.there a (q2 ▸ ma)
  have hn0 : h' a = none := by
    cases q : h' a with
    | none => rfl
    | some z =>
      rcases ex.hn a z q with r | r | r
      · rw [nn] at r; cases r
      · cases r
      · exact (r.no eu (S1.env.nobad a (q2 ▸ ma))).elim
  rw [ex.stay hn0 (fun z => nomatch z) eu, ← eu]
  exact q3 a ma
end
structure DEnds where
  nx : En → Prop
  rt : En → Vl → Prop
abbrev DTS := DEnds → En → Prop
def NPost (K : PySem.W.Frag) (ob : L2.St → L2.St) (σ : L2.St) (h H : Hp) (fp : List Addr) (P : En → Prop) : L2.St → Hp → Prop := fun σ' H' => ∃ h' G' fp', Stt K h' H' G' σ' fp' ∧ Ext h H fp h' H' fp' ∧ ob σ' = ob σ ∧ P G'
def RPost (K : PySem.W.Frag) (ob : L2.St → L2.St) (σ : L2.St) (h H : Hp) (fp : List Addr) (P : En → Vl → Prop) : VK := fun v H' => ∃ h' G' fp' σ' vl fv, Stt K h' H' G' σ' fp' ∧ OwnV K h' H' G' σ' vl v fv ∧ (fp' ++ fv).Nodup ∧ Ext h H fp h' H' (fp' ++ fv) ∧ ob σ' = ob σ ∧ P G' vl
/-- the end of a raise, of a class -/
def exc (x : Str) : Vl := .pk 1000000 (some (.fd x))
/-- what a context wants where it is left by an exception -/
def Wt (X : Cx) (cls : Value) (d : Option Addr) (σ : L2.St) (H : Hp) : Prop := ∀ u s', XE X (fun c e ρ J => c = cls ∧ e = d ∧ ρ = σ ∧ J = H) u s' → X.xe u s'
def XPost (K : PySem.W.Frag) (ob : L2.St → L2.St) (σ : L2.St) (h H : Hp) (fp : List Addr) (P : En → Vl → Prop) (x : Str) : L2.St → Hp → Prop := fun σ' H' => ∃ h' G' fp', Stt K h' H' G' σ' fp' ∧ Ext h H fp h' H' fp' ∧ ob σ' = ob σ ∧ G'.length ≤ 1000000 ∧ P G' (exc x)
def sS (X : Cx) (m : Nat) (t : DTS) : TS := fun D σ H => ∃ h G fp Ds, Stt X.K h H G σ fp ∧ t Ds G ∧ (∀ σ' H', NPost X.K (List.take m) σ h H fp Ds.nx σ' H' → D.nx σ' H') ∧ (∀ v H', RPost X.K (List.take m) σ h H fp Ds.rt v H' → D.rt v H') ∧
  ∀ x C σ' H', X.mg x = some (.ref C) → XPost X.K (List.take m) σ h H fp Ds.rt x σ' H' → Wt X (.ref C) none σ' H'
def DS (X : Cx) (m : Nat) (st : Stmt) (t : DTS) : Prop := PS X st (sS X m t)
def DSs (X : Cx) (m : Nat) (st : List Stmt) (t : DTS) : Prop := PSs X st (sS X m t)
def dNext : DTS := fun Ds G => Ds.nx G
def dSeq (t u : DTS) : DTS := fun Ds G => t ⟨u Ds, Ds.rt⟩ G
def dIf (c : DTT) (t u : DTS) : DTS := fun Ds G => c G fun G1 b => if b = true then t Ds G1 else u Ds G1
def dExpr (te : DTE) : DTS := fun Ds G => te G fun G1 _ => Ds.nx G1
def dRet (te : DTE) : DTS := fun Ds G => te G Ds.rt
theorem NPost.chain {K : PySem.W.Frag} {ob : L2.St → L2.St} {σ σ1 : L2.St} {h H h1 H1 : Hp} {fp f1 : List Addr} {P : En → Prop} {σ' : L2.St} {H' : Hp} (e : Ext h H fp h1 H1 f1) (tk : ob σ1 = ob σ) (n : NPost K ob σ1 h1 H1 f1 P σ' H') : NPost K ob σ h H fp P σ' H' := by
  obtain ⟨h', G', fp', S, ex, t, q⟩ := n
  exact ⟨h', G', fp', S, e.trans ex, t.trans tk, q⟩
theorem RPost.chain {K : PySem.W.Frag} {ob : L2.St → L2.St} {σ σ1 : L2.St} {h H h1 H1 : Hp} {fp f1 : List Addr} {P : En → Vl → Prop} {v : V} {H' : Hp} (e : Ext h H fp h1 H1 f1) (tk : ob σ1 = ob σ) (n : RPost K ob σ1 h1 H1 f1 P v H') : RPost K ob σ h H fp P v H' := by
  obtain ⟨h', G', fp', σ', vl, fv, S, ov, nd, ex, t, q⟩ := n
  exact ⟨h', G', fp', σ', vl, fv, S, ov, nd, e.trans ex, t.trans tk, q⟩
section
variable {X : Cx} {pa pb : Bool} {m : Nat} {st : Stmt} {rest a b : List Stmt} {t u : DTS} {c e : Expr} {tc : DTT} {te : DTE} {pos : Pos}
theorem dss_nil : DSs X m [] dNext := pss_imp pss_nil fun D σ H ⟨h, G, fp, Ds, S, w, kn, kr, kx⟩ => kn σ H ⟨h, G, fp, S, Ext.refl h H fp, rfl, w⟩
theorem XPost.chain {K : PySem.W.Frag} {ob : L2.St → L2.St} {σ σ1 : L2.St} {h H h1 H1 : Hp} {fp f1 : List Addr} {P : En → Vl → Prop} {x : Str} {σ' : L2.St} {H' : Hp} (e : Ext h H fp h1 H1 f1) (tk : ob σ1 = ob σ) (n : XPost K ob σ1 h1 H1 f1 P x σ' H') : XPost K ob σ h H fp P x σ' H' := by
  obtain ⟨h', G', fp', S, ex, t, g, q⟩ := n
  exact ⟨h', G', fp', S, e.trans ex, t.trans tk, g, q⟩
theorem seq_imp {D : Ends} {σ : L2.St} {H : Hp} (w : sS X m (dSeq t u) D σ H) : tSeq (sS X m t) (sS X m u) D σ H := by
  obtain ⟨h, G, fp, Ds, S, w, kn, kr, kx⟩ := w
  exact ⟨h, G, fp, _, S, w, fun σ' H' ⟨h1, G1, f1, S1, e1, t1, w1⟩ => ⟨h1, G1, f1, Ds, S1, w1, fun σ2 H2 n => kn σ2 H2 (n.chain e1 t1), fun v H2 n => kr v H2 (n.chain e1 t1), fun x C σ2 H2 hx n => kx x C σ2 H2 hx (n.chain e1 t1)⟩, kr, kx⟩
theorem dss_cons (h1 : DS X m st t) (h2 : DSs X m rest u) : DSs X m (st :: rest) (dSeq t u) := pss_imp (pss_cons h1 h2) fun _ _ _ w => seq_imp w
theorem dss_one (h1 : DS X m st t) : DSs X m [st] t := pss_one h1
theorem ds_if (hc : DT X pa c tc) (ha : DSs X m a t) (hb : DSs X m b u) : DS X m (.If c a b pos) (dIf tc t u) := by
  refine ps_imp (ps_if hc ha hb) fun D σ H ⟨h, G, fp, Ds, S, w, kn, kr, kx⟩ => ?_
  refine ⟨h, G, fp, _, S, w, fun b H1 ⟨h1, G1, f1, S1, e1, p1, w1⟩ => ?_⟩
  cases b with
  | true =>
    rw [if_pos rfl] at w1 ⊢
    exact ⟨h1, G1, f1, Ds, S1, w1, fun σ2 H2 n => kn σ2 H2 (n.chain e1 rfl), fun v H2 n => kr v H2 (n.chain e1 rfl), fun x C σ2 H2 hx n => kx x C σ2 H2 hx (n.chain e1 rfl)⟩
  | false =>
    rw [if_neg Bool.false_ne_true] at w1 ⊢
    exact ⟨h1, G1, f1, Ds, S1, w1, fun σ2 H2 n => kn σ2 H2 (n.chain e1 rfl), fun v H2 n => kr v H2 (n.chain e1 rfl), fun x C σ2 H2 hx n => kx x C σ2 H2 hx (n.chain e1 rfl)⟩
theorem ds_expr (he : DE X pa e te) (hs : swapsWith e none pos.line X.env = pure false := by rfl) : DS X m (.Expr e pos) (dExpr te) := by
  refine ps_imp (ps_expr he hs) fun D σ H ⟨h, G, fp, Ds, S, w, kn, kr, kx⟩ => ?_
  exact ⟨h, G, fp, _, S, w, fun v H1 ⟨h1, G1, f1, va, fva, r1, w1⟩ => kn σ H1 ⟨h1, G1, f1, r1.st, r1.drop, rfl, w1⟩⟩
theorem ds_ret (he : DE X pa e te) : DS X m (.Return (some e) pos) (dRet te) := by
  refine ps_imp (ps_ret he) fun D σ H ⟨h, G, fp, Ds, S, w, kn, kr, kx⟩ => ?_
  exact ⟨h, G, fp, _, S, w, fun v H1 ⟨h1, G1, f1, va, fva, r1, w1⟩ => kr v H1 ⟨h1, G1, f1, σ, va, fva, r1.st, r1.ov, r1.nd, r1.ex, rfl, w1⟩⟩
/-- a statement with a word behind it -/
def dCut (t : DTS) : DTS := fun Ds G => ∃ P : En → Prop, t ⟨P, Ds.rt⟩ G ∧ ∀ G', P G' → Ds.nx G'
theorem ds_cut (h : DS X m st t) : DS X m st (dCut t) := ps_imp h fun D σ H ⟨h, G, fp, Ds, S, ⟨P, w, imp⟩, kn, kr, kx⟩ =>
  ⟨h, G, fp, _, S, w, fun σ' H' ⟨h', G', fp', S', e', t', q⟩ => kn σ' H' ⟨h', G', fp', S', e', t', imp G' q⟩, kr, kx⟩
abbrev DTG := D → En → (En → Prop) → Prop
def sG (K : PySem.W.Frag) (ob : L2.St → L2.St) (g : DTG) : TG := fun v σ H R => ∃ h G fp d Q, Stt K h H G σ fp ∧ At K h d v ∧ g d G Q ∧ ∀ σ' H', NPost K ob σ h H fp Q σ' H' → R σ' H'
def DG (X : Cx) (ob : L2.St → L2.St) (tg : Expr) (g : DTG) : Prop := PG X tg (sG X.K ob g)
def gN (i : Nat) : DTG := fun d G Q => i < G.length ∧ Q (G.set i (some (.fz d)))
theorem take_set {α : Type} {l : List α} {m i : Nat} {x : α} (h : m ≤ i) : (l.set i x).take m = l.take m := by
  rw [List.take_set]
  exact List.set_eq_of_length_le (by simp; omega)
theorem Stt.store {K : PySem.W.Frag} {h H : Hp} {G : En} {σ : L2.St} {fp fc : List Addr} {i : Nat} {t : T} {v : V} (S : Stt K h H G σ fp) (hi : i < G.length) (ot : Own K h H t v fc) (nd : (fp ++ fc).Nodup) :
    ∃ fp', Stt K h H (G.set i (some t)) (σ.set i (some v)) fp' ∧ ∀ a ∈ fp', a ∈ fp ++ fc := by
  obtain ⟨f', o, n, s⟩ := S.env.store hi ot nd
  exact ⟨f', ⟨S.sub, o, n⟩, s⟩
theorem pg_imp {tg : Expr} {g g' : TG} (h : PG X tg g) (k : ∀ v σ H R, g' v σ H R → g v σ H R) : PG X tg g' := by
  obtain ⟨h⟩ := h
  exact ⟨fun pins s σ H v u Q I r q => h pins s σ H v u Q I r (k _ _ _ _ q)⟩
end
end DL
namespace DL
open PySem PySem.Spec L2
abbrev DTGs := List D → En → (En → Prop) → Prop
def sGs (K : PySem.W.Frag) (ob : L2.St → L2.St) (g : DTGs) : TGs := fun vs σ H R => ∃ h G fp ds Q, Stt K h H G σ fp ∧ Ats K h ds vs ∧ g ds G Q ∧ ∀ σ' H', NPost K ob σ h H fp Q σ' H' → R σ' H'
def DGs (X : Cx) (ob : L2.St → L2.St) (ts : List Expr) (g : DTGs) : Prop := PGs X ts (sGs X.K ob g)
def gsNil : DTGs := fun ds G Q => ds = [] ∧ Q G
def gsCons (g : DTG) (gs : DTGs) : DTGs := fun ds G Q => match ds with | [] => False | d :: r => g d G fun G1 => gs r G1 Q
def gT (n : Nat) (gs : DTGs) : DTG := fun d G Q => match d with | .tup ds => ds.length = n ∧ gs ds G Q | .ctup ds => ds.length = n ∧ gs ds G Q | _ => False
section
variable {X : Cx} {ob : L2.St → L2.St} {pos : Pos} {e : Expr} {es : List Expr} {g : DTG} {gs : DTGs}
theorem pgs_imp {ts : List Expr} {g g' : TGs} (h : PGs X ts g) (k : ∀ v σ H R, g' v σ H R → g v σ H R) : PGs X ts g' := by
  obtain ⟨h⟩ := h
  exact ⟨fun pins s σ H v u Q I r q => h pins s σ H v u Q I r (k _ _ _ _ q)⟩
theorem dg_name {i : Nat} (p : PG X e (gName i)) (ho : ∀ σ x, ob (List.set σ i x) = ob σ) : DG X ob e (gN i) := pg_imp p fun v σ H R ⟨h, G, fp, d, Q, S, a, ⟨hi, w⟩, c⟩ => by
  obtain ⟨f', S', s⟩ := S.store hi (.fz a) (by simpa using S.nd)
  exact c _ H ⟨h, _, f', S', (Ext.refl h H fp).weak fun x mx => by simpa using s x mx, ho _ _, w⟩
theorem dgs_nil : DGs X ob [] gsNil := pgs_imp pgs_nil fun v σ H R ⟨h, G, fp, ds, Q, S, a, ⟨e, w⟩, c⟩ => by
  subst e
  cases a
  exact ⟨rfl, c _ H ⟨h, G, fp, S, Ext.refl h H fp, rfl, w⟩⟩
theorem dgs_cons (h1 : DG X ob e g) (h2 : DGs X ob es gs) (hc : (assignEach (e :: es) X.env).map (·.2) = assign e X.env :: (assignEach es X.env).map (·.2) := by rfl) : DGs X ob (e :: es) (gsCons g gs) := pgs_imp (pgs_cons h1 h2 hc) fun vs σ H R ⟨h, G, fp, ds, Q, S, a, w, c⟩ => by
  cases a with
  | nil => exact w.elim
  | cons a r =>
    refine ⟨_, _, rfl, h, G, fp, _, _, S, a, w, fun σ1 H1 ⟨h1, G1, f1, S1, e1, t1, w1⟩ => ?_⟩
    exact ⟨h1, G1, f1, _, _, S1, r.mono e1.gh, w1, fun σ2 H2 n => c σ2 H2 (n.chain e1 t1)⟩
theorem dg_tup {k : Nat} {n : Nat} (hc : X.calm = true) (h : DGs X ob es gs) (hn : (assignEach es X.env).length = n := by rfl) (hst : (assignEach es X.env).findIdx? (·.1) = none := by rfl) : DG X ob (.Tuple es k pos) (gT n gs) :=
  pg_imp (pg_tup hc h hn hst) fun v σ H R ⟨h, G, fp, d, Q, S, a, w, c⟩ => by
    cases a with
    | tup ea ra => exact ⟨_, _, rfl, SqT.of (S.sub.tup ea), by rw [← ra.length]; exact w.1, h, G, fp, _, _, S, ra, w.2, c⟩
    | ctup ea ra => exact ⟨_, _, rfl, S.sub.sqt ea, by rw [← ra.length]; exact w.1, h, G, fp, _, _, S, ra, w.2, c⟩
    | _ => exact w.elim
end
def setW (G : En) (v : Vl) (i : Nat) (k : En → Prop) : Prop := match v with
  | .t t => i < G.length ∧ k (G.set i (some t))
  | .pk j p => fzW G (.pk j p) fun G2 d => i < G2.length ∧ k (G2.set i (some (.fz d)))
def dSet (i : Nat) (te : DTE) : DTS := fun Ds G => te G fun G1 v => setW G1 v i Ds.nx
/-- a target that takes frozen data -/
def dAsg (te : DTE) (g : DTG) : DTS := fun Ds G => te G fun G1 v => fzW G1 v fun G2 d => g d G2 Ds.nx
section
variable {X : Cx} {pa pb : Bool} {m : Nat} {e a b tg : Expr} {te ta tb : DTE} {g : DTG} {pos : Pos}
theorem set_imp {i : Nat} {D : Ends} {σ : L2.St} {H : Hp} (hm : m ≤ i) (w : sS X m (dSet i te) D σ H) : tAsg (sE X.K pa te) (gName i) D σ H := by
  obtain ⟨h, G, fp, Ds, S, w, kn, kr, kx⟩ := w
  refine ⟨h, G, fp, _, S, w, fun v H1 ⟨h1, G1, f1, va, fva, r1, w1⟩ => ?_⟩
  refine kn _ H1 ?_
  cases va with
  | t t =>
    cases r1.ov with
    | t o =>
      obtain ⟨f', S', s⟩ := r1.st.store w1.1 o r1.nd
      exact ⟨h1, _, f', S', r1.ex.weak s, take_set hm, w1.2⟩
  | pk j p =>
    have w1 : fzW G1 (.pk j p) (fun G2 d => i < G2.length ∧ Ds.nx (G2.set i (some (.fz d)))) := w1
    obtain ⟨h2, G2, f2, d, S2, a2, e2, hi, q⟩ := r1.fz w1
    obtain ⟨f', S', s⟩ := S2.store hi (.fz a2) (by simpa using S2.nd)
    exact ⟨h2, _, f', S', e2.weak fun x mx => by simpa using s x mx, take_set hm, q⟩
theorem ds_set {i : Nat} {x : Str} {pos' : Pos} (hN : X.N.Nodup) (hi : X.N[i]? = some x) (hx : Loc X.env.scope x) (he : DE X pa e te) (hm : m ≤ i) (hs : swapsWith e (some (.Name x pos')) pos.line X.env = pure false := by rfl) (hf : X.fn x = true ∨ X.env.scope.names.lookup x = some .local := by first | exact .inl rfl | exact .inr rfl | assumption) :
    DS X m (.Assign [.Name x pos'] e pos) (dSet i te) := ps_imp (ps_set hN hi hx he hs hf) fun _ _ _ w => set_imp hm w
theorem ds_asg (he : DE X pa e te) (hg : DG X (List.take m) tg g) (hs : swapsWithSole [tg] e pos.line X.env = pure false := by rfl) (hw : swappedStores [tg] e X.env = pure none := by rfl)
    (h1 : (assignEach [tg] X.env).map (·.2) = [assign tg X.env] := by rfl) : DS X m (.Assign [tg] e pos) (dAsg te g) := by
  refine ps_imp (ps_asg he hg hs hw h1) fun D σ H ⟨h, G, fp, Ds, S, w, kn, kr, kx⟩ => ?_
  refine ⟨h, G, fp, _, S, w, fun v H1 ⟨h1, G1, f1, va, fva, r1, w1⟩ => ?_⟩
  obtain ⟨h2, G2, f2, d, S2, a2, e2, q⟩ := r1.fz w1
  exact ⟨h2, G2, f2, d, _, S2, a2, q, fun σ2 H2 n => kn σ2 H2 (n.chain e2 rfl)⟩
def keyOf : D → Option Key
  | .int i => some (.inl i)
  | .str x => some (.inr x)
  | _ => none
def keysOf : List D → Option (List Key)
  | [] => some []
  | d :: r => (match keyOf d, keysOf r with | some k, some ks => some (k :: ks) | _, _ => none)
def ixD : D2 := fun x y R => match x, y with
  | .lst ds, .int i => (match atI ds i with | some d => R (.fz d) | none => False)
  | .tup ds, .int i => (match atI ds i with | some d => R (.fz d) | none => False)
  | .scr ns, .int i => (match atI ns i with | some n => R (.fz (.int n)) | none => False)
  | .ctup ds, .int i => (match atI ds i with | some d => R (.fz d) | none => False)
  | .dK l, y => (match keyOf y with | some k => (match look l k with | some d => R (.fz d) | none => False) | none => False)
  | .dT l, .tup ds => (match keysOf ds with | some k => (match look l k with | some d => R (.fz d) | none => False) | none => False)
  | _, _ => False
theorem ix_dict (hu : X.A.units + 1 < cLine) : IxR X (fun x y H Q => ∃ a v, x = .ref a ∧ DGet H a y (some v) ∧ Q v H) := by
  rintro val sl pins s σ H x y v u Q I rx ry ⟨a, w, e, g, q⟩ plain
  subst e
  cases (show v = Value.ref a from rx)
  have isD := dict_typeIs I g
  have got : wpAny (model X.prog X.w) X.A (subscripted sl false (.ref a) u) (fun r t => wpAny (model X.prog X.w) X.A (letTemporaryGo val (.ref a) r >>= fun _ => pure r) (EP X pins σ Q) X.xe t) X.xe s :=
    plain ▸ wpAny_operating (thn (d_getItem hu I g ry fun z t J rz => ⟨w, H, J, rz, q⟩) fun r t ht => wpAny_bind (wpAny_letTemporaryGo (wpAny_pure ht)))
  unfold PyProof.Rows.subscriptTail
  rw [getitemInPython_of_ne isD.not_modules]
  refine wpAny_bind (wpAny_bind (wpAny_specialOf isD PySem.F.slot_dict_getitem.lookup ?_))
  first
    | exact wpAny_pure (wpAny_bind got)
    | exact wpAny_bind got
    | exact wpAny_bind (wpAny_pure (wpAny_bind got))
theorem Ats.get {K : PySem.W.Frag} {h : Hp} : ∀ {ds : List D} {vs : List V} {i : Nat} {d : D}, Ats K h ds vs → ds[i]? = some d → ∃ v, vs[i]? = some v ∧ At K h d v
  | _, _, _, _, .nil, e => by simp at e
  | _, _, 0, _, .cons a _, e => by simp at e; subst e; exact ⟨_, by simp, a⟩
  | _, _, i + 1, _, .cons _ r, e => by simpa using Ats.get r (by simpa using e)
theorem AtK.look {K : PySem.W.Frag} {h : Hp} : ∀ {l : List (Key × D)} {w : List (Key × V)} {k : Key}, AtK K h l w → (∀ d, DL.look l k = some d → ∃ v, valV w k = some v ∧ At K h d v) ∧ (DL.look l k = none → valV w k = none)
  | _, _, k, .nil => ⟨fun d e => (by simp [DL.look] at e), fun _ => rfl⟩
  | _, _, k, .cons (k := k') a r => by
    by_cases hk : k' = k
    · simp only [DL.look, if_pos hk, valV_pos (p := (k', _)) hk]
      exact ⟨fun d e => ⟨_, rfl, by cases e; exact a⟩, fun e => by cases e⟩
    · simp only [DL.look, if_neg hk, valV_neg (p := (k', _)) hk]
      exact AtK.look r
theorem AtT.look {K : PySem.W.Frag} {h : Hp} : ∀ {l : List (List Key × D)} {w : List (List Key × V)} {k : List Key}, AtT K h l w → (∀ d, DL.look l k = some d → ∃ v, valV w k = some v ∧ At K h d v) ∧ (DL.look l k = none → valV w k = none)
  | _, _, k, .nil => ⟨fun d e => (by simp [DL.look] at e), fun _ => rfl⟩
  | _, _, k, .cons (k := k') a r => by
    by_cases hk : k' = k
    · simp only [DL.look, if_pos hk, valV_pos (p := (k', _)) hk]
      exact ⟨fun d e => ⟨_, rfl, by cases e; exact a⟩, fun e => by cases e⟩
    · simp only [DL.look, if_neg hk, valV_neg (p := (k', _)) hk]
      exact AtT.look r
theorem keyOf_at {K : PySem.W.Frag} {h : Hp} {d : D} {k : Key} {v : V} (e : keyOf d = some k) (a : At K h d v) : v = kV k := by
  cases d <;> simp only [keyOf, Option.some.injEq] at e <;> first | (cases e; cases a; rfl) | cases e
theorem keyOf_atR {K : PySem.W.Frag} {h H : Hp} {d : D} {k : Key} {v : V} (e : keyOf d = some k) (a : AtR K h H d v) : v = kV k := by
  cases a with
  | of a => exact keyOf_at e a
  | ls _ _ => cases e
  | dk _ _ => cases e
  | dt _ _ => cases e
theorem keysOf_at {K : PySem.W.Frag} {h : Hp} : ∀ {ds : List D} {ks : List Key} {vs : List V}, keysOf ds = some ks → Ats K h ds vs → vs = ks.map kV
  | [], _, _, e, .nil => by cases e; rfl
  | d :: r, ks, _, e, .cons a ar => by
    simp only [keysOf] at e
    split at e
    · rename_i k ks' e1 e2
      cases e
      rw [keyOf_at e1 a, keysOf_at e2 ar]; rfl
    · cases e
/-- the items of a list, a tuple that is read -/
theorem AtR.lst {K : PySem.W.Frag} {h H : Hp} {ds : List D} {v : V} (sb : Sub h H) (a : AtR K h H (.lst ds) v) : ∃ p vs, v = .ref p ∧ H p = some (.lst vs) ∧ Ats K h ds vs := by
  cases a with
  | of a => cases a with | lst e r => exact ⟨_, _, rfl, sb.lst e, r⟩
  | ls e r => exact ⟨_, _, rfl, e, r⟩
theorem AtR.tup {K : PySem.W.Frag} {h H : Hp} {ds : List D} {v : V} (sb : Sub h H) (a : AtR K h H (.tup ds) v) : ∃ p vs, v = .ref p ∧ H p = some (.tup vs) ∧ Ats K h ds vs := by
  cases a with
  | of a => cases a with | tup e r => exact ⟨_, _, rfl, sb.tup e, r⟩
theorem AtR.dK {K : PySem.W.Frag} {h H : Hp} {ds : List (Key × D)} {v : V} (sb : Sub h H) (a : AtR K h H (.dK ds) v) : ∃ p vs, v = .ref p ∧ Rd H p (.dK vs) ∧ AtK K h ds vs := by
  cases a with
  | of a => cases a with | dK e r => exact ⟨_, _, rfl, sb.rd e, r⟩
  | dk e r => exact ⟨_, _, rfl, e, r⟩
theorem AtR.dT {K : PySem.W.Frag} {h H : Hp} {ds : List (List Key × D)} {v : V} (sb : Sub h H) (a : AtR K h H (.dT ds) v) : ∃ p vs, v = .ref p ∧ Rd H p (.dT vs) ∧ AtT K h ds vs := by
  cases a with
  | of a => cases a with | dT e r => exact ⟨_, _, rfl, sb.rd e, r⟩
  | dt e r => exact ⟨_, _, rfl, e, r⟩
/-- what a dict answers to a key -/
theorem dict_get {K : PySem.W.Frag} {h H : Hp} {dd dy : D} {x y : V} (sb : Sub h H) (ax : AtR K h H dd x) (ay : AtR K h H dy y) :
    (∀ l k, dd = .dK l → keyOf dy = some k → ∃ a o, x = .ref a ∧ DGet H a y o ∧ (∀ d, look l k = some d → ∃ v, o = some v ∧ At K h d v) ∧ (look l k = none → o = none)) ∧
    (∀ l ds k, dd = .dT l → dy = .tup ds → keysOf ds = some k → ∃ a o, x = .ref a ∧ DGet H a y o ∧ (∀ d, look l k = some d → ∃ v, o = some v ∧ At K h d v) ∧ (look l k = none → o = none)) := by
  refine ⟨fun l k e ek => ?_, fun l ds k e e2 ek => ?_⟩
  · subst e
    obtain ⟨p, vs, rfl, r, al⟩ := ax.dK sb
    exact ⟨p, valV vs k, rfl, .inl ⟨vs, k, r, keyOf_atR ek ay, rfl⟩, al.look.1, al.look.2⟩
  · subst e e2
    obtain ⟨p, vs, rfl, r, al⟩ := ax.dT sb
    obtain ⟨q, ws, rfl, r2, al2⟩ := ay.tup sb
    rw [keysOf_at ek al2] at r2
    exact ⟨p, valV vs k, rfl, .inr ⟨vs, k, q, r, rfl, r2, rfl⟩, al.look.1, al.look.2⟩
theorem atI_at {K : PySem.W.Frag} {h : Hp} {ds : List D} {vs : List V} {i : Int} {d : D} (a : Ats K h ds vs) (e : atI ds i = some d) : ∃ v, atI vs i = some v ∧ At K h d v := by
  unfold atI at e ⊢
  rw [a.length] at e
  cases q : ixN vs.length i with
  | none => rw [q] at e; cases e
  | some j => rw [q] at e; exact a.get e
theorem ix_ok (hu : X.A.units + 1 < cLine) : IxR X (rOf X.K ixD) := by
  have base : IxR X (fun x y H Q => rIxL X.K x y H Q ∨ rIxT X.K x y H Q ∨ ∃ a v, x = .ref a ∧ DGet H a y (some v) ∧ Q v H) := ix_list.or (ix_tup.or (ix_dict hu))
  intro value slice pins s σ H x y v u Q I rx ry ⟨h, dx, dy, R, sb, ax, ay, w, c⟩ hs
  refine base value slice pins s σ H x y v u Q I rx ry ?_ hs
  have fin : ∀ d z, At X.K h d z → R (.fz d) → Q z H := fun d z az q => c z H (.plain sb az q)
  unfold ixD at w
  split at w
  · rename_i ds i
    split at w
    · rename_i d e
      obtain ⟨p, vs, rfl, r, al⟩ := ax.lst sb
      obtain ⟨z, e2, az⟩ := atI_at al e
      exact .inl ⟨p, vs, i, z, rfl, ay.int, SqL.of r, e2, fin d z az w⟩
    · exact w.elim
  · rename_i ds i
    split at w
    · rename_i d e
      obtain ⟨p, vs, rfl, r, al⟩ := ax.tup sb
      obtain ⟨z, e2, az⟩ := atI_at al e
      exact .inr (.inl ⟨p, vs, i, z, rfl, ay.int, SqT.of r, e2, fin d z az w⟩)
    · exact w.elim
  · rename_i ns i
    split at w
    · rename_i n e
      cases ax with
      | of ax =>
        cases ax with
        | scr q =>
          refine .inl ⟨_, _, i, .int n, rfl, ay.int, sb.sql q, ?_, fin _ _ .int w⟩
          unfold atI at e ⊢
          rw [List.length_map]
          cases z : ixN ns.length i with
          | none => rw [z] at e; cases e
          | some j => rw [z] at e; show (ns.map V.int)[j]? = _; rw [List.getElem?_map, show ns[j]? = some n from e]; rfl
    · exact w.elim
  · rename_i ds i
    split at w
    · rename_i d e
      cases ax with
      | of ax =>
        cases ax with
        | ctup q al =>
          obtain ⟨z, e2, az⟩ := atI_at al e
          exact .inr (.inl ⟨_, _, i, z, rfl, ay.int, sb.sqt q, e2, fin d z az w⟩)
    · exact w.elim
  · rename_i l
    split at w
    · rename_i k ek
      split at w
      · rename_i d e
        obtain ⟨a, o, rfl, g, g1, _⟩ := (dict_get sb ax ay).1 l k rfl ek
        obtain ⟨z, rfl, az⟩ := g1 d e
        exact .inr (.inr ⟨a, z, rfl, g, fin d z az w⟩)
      · exact w.elim
    · exact w.elim
  · rename_i l ds
    split at w
    · rename_i k ek
      split at w
      · rename_i d e
        obtain ⟨a, o, rfl, g, g1, _⟩ := (dict_get sb ax ay).2 l ds k rfl rfl ek
        obtain ⟨z, rfl, az⟩ := g1 d e
        exact .inr (.inr ⟨a, z, rfl, g, fin d z az w⟩)
      · exact w.elim
    · exact w.elim
  · exact w.elim
theorem de_ix (hu : X.A.units + 1 < cLine) (ha : DE X pa a ta) (hb : DE X pb b tb) (hs : PlainIx b) : DE X (pa && pb) (.Subscript a b pos) (dBin ixD pb ta tb) :=
  pe_imp (pe_ix (ix_ok hu) ha hb hs) fun _ _ _ w => bin_imp w
end
end DL
namespace DL
open PySem PySem.Spec L2
/-- what is locked stays so -/
def Frz (H H' : Hp) : Prop := ∀ a o u, H a = some (.frz o u) → H' a = some (.frz o u)
theorem Frz.refl (H : Hp) : Frz H H := fun _ _ _ e => e
theorem OwnE.nofrz {K : PySem.W.Frag} {h H : Hp} {G : En} {σ : L2.St} {fp : List Addr} (w : OwnE K h H G σ fp) : ∀ a ∈ fp, ∀ o u, H a ≠ some (.frz o u) := fun a m o u => w.nobad a m _ rfl
theorem Ext.frz {h H h' H' : Hp} {fp fp' : List Addr} (e : Ext h H fp h' H' fp') (n : ∀ a ∈ fp, ∀ o u, H a ≠ some (.frz o u)) : Frz H H' := fun a o u q => by
  rcases e.fr a _ (fun m => n a m o u q) q with r | ⟨d, _⟩
  · exact r
  · cases d
def Gives (K : PySem.W.Frag) (J : It) (h0 H0 : Hp) (xs : List D) : Prop := ∀ h H, Same h0 h → Frz H0 H → Sub h H →
  (∀ i d, xs[i]? = some d → J.go i H ∧ ∀ x H', J.yld i H x H' → ∃ h', Same h h' ∧ Sub h' H' ∧ Same H H' ∧ (∀ a o, h' a = some o → h a = some o ∨ Frs H a) ∧ At K h' d x) ∧ J.stop xs.length H
abbrev DTI := En → (En → List D → Prop) → Prop
def IPost (K : PySem.W.Frag) (σ : L2.St) (h H : Hp) (fp : List Addr) (Q : En → List D → Prop) : It → Hp → Prop := fun J H' => ∃ h' G' fp' xs, Stt K h' H' G' σ fp' ∧ Ext h H fp h' H' fp' ∧ Gives K J h' H' xs ∧ Q G' xs
def sI (K : PySem.W.Frag) (t : DTI) : TI := fun σ H R => ∃ h G fp Q, Stt K h H G σ fp ∧ t G Q ∧ ∀ J H', IPost K σ h H fp Q J H' → R J H'
def DI (X : Cx) (tg iter : Expr) (t : DTI) : Prop := PI X tg iter (sI X.K t)
theorem pi_imp {X : Cx} {tg e : Expr} {t t' : TI} (h : PI X tg e t) (k : ∀ σ H Q, t' σ H Q → t σ H Q) : PI X tg e t' := ⟨fun pins s σ H Q I q => h.run pins s σ H Q I (k σ H Q q)⟩
/-- a list, a tuple -/
def iSeqD (te : DTE) : DTI := fun G Q => te G fun G1 v => fzW G1 v fun G2 d => match d with | .lst ds => Q G2 ds | .tup ds => Q G2 ds | .scr ns => Q G2 (ns.map .int) | .ctup ds => Q G2 ds | _ => False
def upto (lo : Int) (n : Nat) : List D := (List.range n).map fun i => .int (lo + (i : Nat))
def uptoC (lo c : Int) (n : Nat) : List D := (List.range n).map fun i => .int (lo + (i : Nat) * c)
def iRange1 (ta : DTA) : DTI := fun G Q => ta G fun G1 as => withD as fun ds => match ds with | [.int j] => -(2 ^ 62) ≤ j ∧ j < 2 ^ 62 ∧ Q G1 (upto 0 j.toNat) | _ => False
def iRange2 (ta : DTA) : DTI := fun G Q => ta G fun G1 as => withD as fun ds => match ds with | [.int i, .int j] => (-(2 ^ 62) ≤ i ∧ i < 2 ^ 62 ∧ -(2 ^ 62) ≤ j ∧ j < 2 ^ 62) ∧ Q G1 (upto i (j - i).toNat) | _ => False
def iRange3 (ta : DTA) : DTI := fun G Q => ta G fun G1 as => withD as fun ds => match ds with | [.int i, .int j, .int c] => ∃ n, RgC i j c n ∧ Q G1 (uptoC i c n) | _ => False
def enumD : Nat → List D → List D
  | _, [] => []
  | i, d :: r => .tup [.int (i : Nat), d] :: enumD (i + 1) r
def zipD : List D → List D → List D
  | a :: r, b :: s => .tup [a, b] :: zipD r s
  | _, _ => []
def iEnumD (ta : DTA) : DTI := fun G Q => ta G fun G1 as => withD as fun ds => match ds with | [.lst xs] => Q G1 (enumD 0 xs) | _ => False
def iZipD (ta : DTA) : DTI := fun G Q => ta G fun G1 as => withD as fun ds => match ds with | [.lst xs, .lst ys] => Q G1 (zipD xs ys) | [.tup xs, .tup ys] => Q G1 (zipD xs ys) | _ => False
section
variable {K : PySem.W.Frag}
theorem ints_ats {h : Hp} : ∀ {ns : List Int}, Ats K h (ns.map .int) (ns.map V.int)
  | [] => .nil
  | n :: r => .cons .int ints_ats
theorem gives_list {h0 H0 : Hp} {a : Addr} {vs : List V} {ds : List D} (e : SqL K h0 a vs) (r : Ats K h0 ds vs) : Gives K (Itl K a) h0 H0 ds := fun h H s _ sb => by
  have e2 : SqL K H a vs := sb.sql (s.seq e)
  refine ⟨fun i d ed => ?_, vs, e2, by rw [r.length]; exact Nat.le_refl _⟩
  obtain ⟨v, ev, av⟩ := r.get ed
  refine ⟨⟨vs, v, e2, ev⟩, fun x H' ⟨eh, y⟩ => ?_⟩
  subst eh
  have := (y vs e2).symm.trans ev
  cases this
  exact ⟨h, Same.refl h, sb, Same.refl H', fun _ _ e => .inl e, av.mono s⟩
theorem gives_tup {h0 H0 : Hp} {a : Addr} {vs : List V} {ds : List D} (e : h0 a = some (.tup vs)) (r : Ats K h0 ds vs) : Gives K (Itt K a) h0 H0 ds := fun h H s _ sb => by
  have e2 : SqT K H a vs := SqT.of (sb.tup (s _ _ e))
  refine ⟨fun i d ed => ?_, vs, e2, by rw [r.length]; exact Nat.le_refl _⟩
  obtain ⟨v, ev, av⟩ := r.get ed
  refine ⟨⟨vs, v, e2, ev⟩, fun x H' ⟨eh, y⟩ => ?_⟩
  subst eh
  have := (y vs e2).symm.trans ev
  cases this
  exact ⟨h, Same.refl h, sb, Same.refl H', fun _ _ e => .inl e, av.mono s⟩
theorem gives_ctup {h0 H0 : Hp} {a : Addr} {vs : List V} {ds : List D} (e : SqT K h0 a vs) (r : Ats K h0 ds vs) : Gives K (Itt K a) h0 H0 ds := fun h H s _ sb => by
  have e2 : SqT K H a vs := sb.sqt (sqt_mono s e)
  refine ⟨fun i d ed => ?_, vs, e2, by rw [r.length]; exact Nat.le_refl _⟩
  obtain ⟨v, ev, av⟩ := r.get ed
  refine ⟨⟨vs, v, e2, ev⟩, fun x H' ⟨eh, y⟩ => ?_⟩
  subst eh
  have := (y vs e2).symm.trans ev
  cases this
  exact ⟨h, Same.refl h, sb, Same.refl H', fun _ _ e => .inl e, av.mono s⟩
theorem gives_range {h0 H0 : Hp} {lo : Int} {n : Nat} : Gives K (Itr lo n) h0 H0 (upto lo n) := fun h H s _ sb => by
  refine ⟨fun i d ed => ?_, by simp [upto, Itr]⟩
  simp only [upto, List.getElem?_map, Option.map_eq_some_iff] at ed
  obtain ⟨j, e1, rfl⟩ := ed
  obtain ⟨hj, e2⟩ := List.getElem?_eq_some_iff.mp e1
  rw [List.getElem_range] at e2
  subst e2
  refine ⟨by simpa [Itr] using hj, fun x H' ⟨eh, y⟩ => ?_⟩
  subst eh y
  exact ⟨h, Same.refl h, sb, Same.refl H', fun _ _ e => .inl e, .int⟩
theorem enumD_get : ∀ {xs : List D} {k i : Nat} {d : D}, (enumD k xs)[i]? = some d → ∃ x, xs[i]? = some x ∧ d = .tup [.int ((k + i : Nat)), x]
  | [], _, _, _, e => by simp [enumD] at e
  | x :: r, k, 0, d, e => by simp [enumD] at e; exact ⟨x, by simp, by simpa using e.symm⟩
  | x :: r, k, i + 1, d, e => by
    obtain ⟨y, e1, e2⟩ := enumD_get (xs := r) (k := k + 1) (i := i) (by simpa [enumD] using e)
    exact ⟨y, by simpa using e1, by rw [e2]; simp; omega⟩
theorem enumD_length : ∀ (xs : List D) (k : Nat), (enumD k xs).length = xs.length
  | [], _ => rfl
  | x :: r, k => by simp [enumD, enumD_length r]
theorem zipD_get : ∀ {xs ys : List D} {i : Nat} {d : D}, (zipD xs ys)[i]? = some d → ∃ x y, xs[i]? = some x ∧ ys[i]? = some y ∧ d = .tup [x, y]
  | [], _, _, _, e => by simp [zipD] at e
  | _ :: _, [], _, _, e => by simp [zipD] at e
  | x :: r, y :: s, 0, d, e => by simp [zipD] at e; exact ⟨x, y, by simp, by simp, e.symm⟩
  | x :: r, y :: s, i + 1, d, e => by
    obtain ⟨a, b, e1, e2, e3⟩ := zipD_get (xs := r) (ys := s) (i := i) (by simpa [zipD] using e)
    exact ⟨a, b, by simpa using e1, by simpa using e2, e3⟩
theorem zipD_length : ∀ (xs ys : List D), (zipD xs ys).length = min xs.length ys.length
  | [], _ => by simp [zipD]
  | _ :: _, [] => by simp [zipD]
  | x :: r, y :: s => by simp only [zipD, List.length_cons, zipD_length r s]; omega
/-- a new pair is laid -/
theorem new_pair {h H : Hp} {p : Addr} {d1 d2 : D} {v1 v2 : V} (sb : Sub h H) (np : H p = none) (a1 : At K h d1 v1) (a2 : At K h d2 v2) :
    ∃ h', Same h h' ∧ Sub h' (upd H p (.tup [v1, v2])) ∧ Same H (upd H p (.tup [v1, v2])) ∧ (∀ a o, h' a = some o → h a = some o ∨ Frs H a) ∧ At K h' (.tup [d1, d2]) (.ref p) := by
  obtain ⟨h', t, fv, o, e⟩ := OpPost.tup (K := K) (R := fun t => t = .fz (.tup [d1, d2])) sb np (.cons a1 (.cons a2 .nil)) rfl
  subst e
  cases o.own with
  | fz a => exact ⟨h', o.gh, o.sub, o.fr, fun x w e => (o.hn x w e).imp id .inl, a⟩
end
section
variable {X : Cx} {pa pb : Bool} {m : Nat} {e tg : Expr} {es : List Expr} {te : DTE} {ta : DTA} {g : DTG} {pos p : Pos}
/-- a list or a tuple, whichever it is -/
theorem pi_any {tl : TE} {l : Expr} (hl : PE X l tl) : PI X tg l (fun σ H R => tl σ H fun x H1 => (∃ a, x = .ref a ∧ (∃ xs, SqL X.K H1 a xs) ∧ R (Itl X.K a) H1) ∨ (∃ a, x = .ref a ∧ (∃ xs, SqT X.K H1 a xs) ∧ R (Itt X.K a) H1)) :=
  ⟨fun pins s σ H R I w => thn (hl.run pins s σ H _ I w) fun v s1 got => by
    obtain ⟨x, H1, J, rel, ⟨a, ex, ⟨xs, sq⟩, r⟩ | ⟨a, ex, ⟨xs, sq⟩, r⟩⟩ := got
    · subst ex; cases rel
      obtain ⟨us, _, pl, _⟩ := J.list sq
      exact PySem.wpAny_pyIter_list pl.isList (pi_one J _ (turn_list a _) ⟨_, Heap.get?_push_size _ rfl, rfl, rfl⟩ r)
    · subst ex; cases rel
      obtain ⟨us, _, pl, _⟩ := J.tuple sq
      exact PySem.wpAny_pyIter_tuple (show s1.heap.IsTuple a us.toArray from pl) (pi_one J _ (turn_tuple a _) ⟨_, Heap.get?_push_size _ rfl, rfl, rfl⟩ r)⟩
theorem di_seq (he : DE X pa e te) : DI X tg e (iSeqD te) := pi_imp (pi_any he) fun σ H Q ⟨h, G, fp, Q', S, w, c⟩ => by
  refine ⟨h, G, fp, _, S, w, fun v H1 ⟨h1, G1, f1, va, fva, r1, w1⟩ => ?_⟩
  obtain ⟨h2, G2, f2, d, S2, a2, e2, w2⟩ := r1.fz w1
  cases d with
  | lst ds => cases a2 with | lst ea ra => exact .inl ⟨_, rfl, ⟨_, SqL.of (S2.sub.lst ea)⟩, c _ _ ⟨h2, G2, f2, ds, S2, e2, gives_list (SqL.of ea) ra, w2⟩⟩
  | scr ns => cases a2 with | scr ea => exact .inl ⟨_, rfl, ⟨_, S2.sub.sql ea⟩, c _ _ ⟨h2, G2, f2, _, S2, e2, gives_list ea ints_ats, w2⟩⟩
  | tup ds => cases a2 with | tup ea ra => exact .inr ⟨_, rfl, ⟨_, SqT.of (S2.sub.tup ea)⟩, c _ _ ⟨h2, G2, f2, ds, S2, e2, gives_tup ea ra, w2⟩⟩
  | ctup ds => cases a2 with | ctup ea ra => exact .inr ⟨_, rfl, ⟨_, S2.sub.sqt ea⟩, c _ _ ⟨h2, G2, f2, ds, S2, e2, gives_ctup ea ra, w2⟩⟩
  | _ => exact w2.elim
theorem di_range1 {a : Expr} (hg : Gl X "range") (hm : X.mg "range" = none) (ha : DA X pa [a] ta) (hs : starEach [a] X.env = [(false, eval a X.env)] := by rfl) : DI X tg (.Call (.Name "range" p) [a] [] pos) (iRange1 ta) :=
  pi_imp (pi_range1 hg hm ha hs) fun σ H Q ⟨h, G, fp, Q', S, w, c⟩ => by
    refine ⟨h, G, fp, _, S, w, fun vs H1 ⟨h1, G1, f1, as, S1, av, e1, p1, w1⟩ => ?_⟩
    obtain ⟨ds, ed, w2⟩ := withD_of w1
    have ad := avD_at av ed
    split at w2
    · rename_i j
      cases ad with | cons a r => cases r; cases a; exact ⟨j, rfl, w2.1, w2.2.1, c _ _ ⟨h1, G1, f1, _, S1, e1, gives_range, w2.2.2⟩⟩
    · exact w2.elim
theorem di_range2 {a b : Expr} (hg : Gl X "range") (hm : X.mg "range" = none) (ha : DA X pa [a, b] ta) (hs : starEach [a, b] X.env = [(false, eval a X.env), (false, eval b X.env)] := by rfl) (hs2 : starEach [b] X.env = [(false, eval b X.env)] := by rfl) : DI X tg (.Call (.Name "range" p) [a, b] [] pos) (iRange2 ta) :=
  pi_imp (pi_range2 hg hm ha hs hs2) fun σ H Q ⟨h, G, fp, Q', S, w, c⟩ => by
    refine ⟨h, G, fp, _, S, w, fun vs H1 ⟨h1, G1, f1, as, S1, av, e1, p1, w1⟩ => ?_⟩
    obtain ⟨ds, ed, w2⟩ := withD_of w1
    have ad := avD_at av ed
    split at w2
    · rename_i i j
      cases ad with | cons a r => cases r with | cons b r => cases r; cases a; cases b; exact ⟨i, j, rfl, w2.1, c _ _ ⟨h1, G1, f1, _, S1, e1, gives_range, w2.2⟩⟩
    · exact w2.elim
theorem di_enum {tpos : Pos} {elts : List Expr} {kk : Nat} (hg : Gl X "enumerate") (hm : X.mg "enumerate" = none) (ha : DA X pa [e] ta) (hs : starEach [e] X.env = [(false, eval e X.env)] := by rfl) :
    DI X (.Tuple elts kk tpos) (.Call (.Name "enumerate" p) [e] [] pos) (iEnumD ta) :=
  pi_imp (pi_enum hg hm ha hs) fun σ H Q ⟨h, G, fp, Q', S, w, c⟩ => by
    refine ⟨h, G, fp, _, S, w, fun vs H1 ⟨h1, G1, f1, as, S1, av, e1, p1, w1⟩ => ?_⟩
    obtain ⟨ds, ed, w2⟩ := withD_of w1
    have ad := avD_at av ed
    split at w2
    · rename_i xs
      cases ad with
      | cons a r =>
        cases r
        cases a with
        | @lst a _ vs ea ra =>
          refine ⟨_, vs, rfl, (SqL.of (S1.sub.lst ea)), c _ _ ⟨h1, G1, f1, _, S1, e1, fun h H s _ sb => ?_, w2⟩⟩
          have e2 : SqL X.K H a vs := SqL.of (sb.lst (s _ _ ea))
          refine ⟨fun i d ed => ?_, vs, e2, by rw [enumD_length, ra.length]; exact Nat.le_refl _⟩
          obtain ⟨x, ex, rfl⟩ := enumD_get ed
          obtain ⟨v, ev, avx⟩ := ra.get ex
          refine ⟨⟨vs, v, e2, ev⟩, fun y H' hy => ?_⟩
          obtain ⟨T, z, rfl, nT, rfl, f⟩ := hy
          have := (f vs e2).symm.trans ev
          cases this
          simp only [Nat.zero_add]
          exact new_pair sb nT .int (avx.mono s)
    · exact w2.elim
theorem di_zip {e2 : Expr} {tpos : Pos} {elts : List Expr} {kk : Nat} (hg : Gl X "zip") (hm : X.mg "zip" = none) (ha : DA X pa [e, e2] ta)
    (hs : starEach [e, e2] X.env = (false, eval e X.env) :: starEach [e2] X.env := by rfl) (hpl : (backTo pos (starEach [e2] X.env)).any (·.1) = false := by rfl) :
    DI X (.Tuple elts kk tpos) (.Call (.Name "zip" p) [e, e2] [] pos) (iZipD ta) :=
  pi_imp (RZ.pi_zipA hg hm ha hs hpl) fun σ H Q ⟨h, G, fp, Q', S, w, c⟩ => by
    refine ⟨h, G, fp, _, S, w, fun vs H1 ⟨h1, G1, f1, as, S1, av, e1, p1, w1⟩ => ?_⟩
    obtain ⟨ds, ed, w2⟩ := withD_of w1
    have ad := avD_at av ed
    split at w2
    · rename_i xs ys
      cases ad with
      | cons a r =>
        cases r with
        | cons b r =>
          cases r
          cases a with
          | @lst a _ vs ea ra =>
            cases b with
            | @lst b _ us eb rb =>
              refine ⟨a, b, vs, us, rfl, .inl ⟨(SqL.of (S1.sub.lst ea)), (SqL.of (S1.sub.lst eb)), c _ _ ⟨h1, G1, f1, _, S1, e1, fun h H s _ sb => ?_, w2⟩⟩⟩
              have e2 : SqL X.K H a vs := SqL.of (sb.lst (s _ _ ea))
              have e3 : SqL X.K H b us := SqL.of (sb.lst (s _ _ eb))
              refine ⟨fun i d ed => ?_, vs, us, e2, e3, by rw [zipD_length, ← ra.length, ← rb.length]; omega⟩
              obtain ⟨x, y, ex, ey, rfl⟩ := zipD_get ed
              obtain ⟨v, ev, avx⟩ := ra.get ex
              obtain ⟨u, eu, avy⟩ := rb.get ey
              refine ⟨⟨vs, us, v, u, e2, e3, ev, eu⟩, fun y H' hy => ?_⟩
              obtain ⟨T, z1, z2, rfl, nT, rfl, g1, g2⟩ := hy
              have q1 := (g1 vs e2).symm.trans ev
              have q2 := (g2 us e3).symm.trans eu
              cases q1; cases q2
              exact new_pair sb nT (avx.mono s) (avy.mono s)
    · rename_i xs ys
      cases ad with
      | cons a r =>
        cases r with
        | cons b r =>
          cases r
          cases a with
          | @tup a _ vs ea ra =>
            cases b with
            | @tup b _ us eb rb =>
              refine ⟨a, b, vs, us, rfl, .inr ⟨SqT.of (S1.sub.tup ea), SqT.of (S1.sub.tup eb), c _ _ ⟨h1, G1, f1, _, S1, e1, fun h H s _ sb => ?_, w2⟩⟩⟩
              have e2 : SqT X.K H a vs := SqT.of (sb.tup (s _ _ ea))
              have e3 : SqT X.K H b us := SqT.of (sb.tup (s _ _ eb))
              refine ⟨fun i d ed => ?_, vs, us, e2, e3, by rw [zipD_length, ← ra.length, ← rb.length]; omega⟩
              obtain ⟨x, y, ex, ey, rfl⟩ := zipD_get ed
              obtain ⟨v, ev, avx⟩ := ra.get ex
              obtain ⟨u, eu, avy⟩ := rb.get ey
              refine ⟨⟨vs, us, v, u, e2, e3, ev, eu⟩, fun y H' hy => ?_⟩
              obtain ⟨T, z1, z2, rfl, nT, rfl, g1, g2⟩ := hy
              have q1 := (g1 vs e2).symm.trans ev
              have q2 := (g2 us e3).symm.trans eu
              cases q1; cases q2
              exact new_pair sb nT (avx.mono s) (avy.mono s)
    · exact w2.elim
def forW (g : DTG) (tb : DTS) (Ds : DEnds) : List D → En → Prop
  | [], G => Ds.nx G
  | x :: r, G => g x G fun G2 => tb ⟨fun G3 => forW g tb Ds r G3, Ds.rt⟩ G2
def dFor (ti : DTI) (g : DTG) (tb : DTS) : DTS := fun Ds G => ti G fun G1 xs => forW g tb Ds xs G1
theorem Ext.same {h H h' H' : Hp} {fp : List Addr} (g1 : Same h h') (g2 : Same H H') (hn : ∀ a o, h' a = some o → h a = some o ∨ Frs H a) : Ext h H fp h' H' fp :=
  ⟨g1, fun a o _ e => .inl (g2 a o e), fun a m => .inl m, fun a o e => by rcases hn a o e with q | q; exact .inl q; exact .inr (.inr q)⟩
/-- new frozen things alone -/
theorem Stt.grow {K : PySem.W.Frag} {h H h' H' : Hp} {G : En} {σ : L2.St} {fp : List Addr} (S : Stt K h H G σ fp) (g1 : Same h h') (sb : Sub h' H') (g2 : Same H H') (hn : ∀ a o, h' a = some o → h a = some o ∨ Frs H a) : Stt K h' H' G σ fp := by
  have th := S.env.there
  refine ⟨sb, S.env.move g1 (fun a m => ?_) (fun a m => ?_), S.nd⟩
  · obtain ⟨_, u, e⟩ := th a m; rw [e]; exact g2 a u e
  · obtain ⟨n, u, e⟩ := th a m
    cases q : h' a with
    | none => rfl
    | some z =>
      rcases hn a z q with r | r
      · rw [n] at r; cases r
      · exact (r.no e (S.env.nobad a m)).elim
theorem drop_cons {α : Type} {l : List α} {i : Nat} {x : α} (e : l[i]? = some x) : l.drop i = x :: l.drop (i + 1) := by
  obtain ⟨hi, rfl⟩ := List.getElem?_eq_some_iff.mp e
  exact List.drop_eq_getElem_cons hi
theorem for_imp {ti : DTI} {tb : DTS} {D : Ends} {σ : L2.St} {H : Hp} (w : sS X m (dFor ti g tb) D σ H) : tFor (sI X.K ti) (sG X.K (List.take m) g) (sS X m tb) D σ H := by
  obtain ⟨h, G, fp, Ds, S, w, kn, kr, kx⟩ := w
  refine ⟨h, G, fp, _, S, w, fun J H1 ⟨h1, G1, f1, xs, S1, e1, gv, w1⟩ => ?_⟩
  refine ⟨fun i mm σ' H' => mm = xs.length - i ∧ i ≤ xs.length ∧ ∃ h' G' f', Stt X.K h' H' G' σ' f' ∧ Ext h H fp h' H' f' ∧ (Same h1 h' ∧ Frz H1 H') ∧ σ'.take m = σ.take m ∧ forW g tb Ds (xs.drop i) G',
    ⟨xs.length, rfl, Nat.zero_le _, h1, G1, f1, S1, e1, ⟨Same.refl h1, Frz.refl H1⟩, rfl, w1⟩, ?_⟩
  rintro i mm σ' H' ⟨rfl, hi, h', G', f', S', e', ⟨s', z'⟩, t', w'⟩
  obtain ⟨go, stop⟩ := gv h' H' s' z' S'.sub
  by_cases hlt : i < xs.length
  · have ex : xs[i]? = some xs[i] := List.getElem?_eq_getElem hlt
    obtain ⟨g1, g2⟩ := go i _ ex
    rw [drop_cons ex] at w'
    refine .inr ⟨g1, fun σ2 H2 => i + 1 ≤ xs.length ∧ ∃ h2 G2 f2, Stt X.K h2 H2 G2 σ2 f2 ∧ Ext h H fp h2 H2 f2 ∧ (Same h1 h2 ∧ Frz H1 H2) ∧ σ2.take m = σ.take m ∧ forW g tb Ds (xs.drop (i + 1)) G2, fun σ2 H2 hh => ⟨xs.length - (i + 1), by omega, rfl, hh⟩, fun x H2 y => ?_⟩
    obtain ⟨h2, q1, q2, q3, q4, ax⟩ := g2 x H2 y
    have S2 := S'.grow q1 q2 q3 q4
    have e2 := e'.trans (Ext.same (fp := f') q1 q3 q4)
    refine ⟨h2, G', f', _, _, S2, ax, w', fun σ3 H3 ⟨h3, G3, f3, S3, e3, t3, w3⟩ => ?_⟩
    refine ⟨h3, G3, f3, _, S3, w3, fun σ4 H4 ⟨h4, G4, f4, S4, e4, t4, w4⟩ => ?_, fun v H4 n => kr v H4 (n.chain (e2.trans e3) (t3.trans t')), fun x C σ4 H4 hx n => kx x C σ4 H4 hx (n.chain (e2.trans e3) (t3.trans t'))⟩
    have z2 : Frz H' H2 := fun a o u q => q3 a _ q
    have z3 : Frz H2 H3 := e3.frz S2.env.nofrz
    have z4 : Frz H3 H4 := e4.frz S3.env.nofrz
    exact ⟨hlt, h4, G4, f4, S4, (e2.trans e3).trans e4, ⟨((s'.trans q1).trans e3.gh).trans e4.gh, fun a o u q => z4 a o u (z3 a o u (z2 a o u (z' a o u q)))⟩, (t4.trans t3).trans t', w4⟩
  · have e : i = xs.length := by omega
    subst e
    rw [List.drop_length] at w'
    exact .inl ⟨stop, kn σ' H' ⟨h', G', f', S', e', t', w'⟩⟩
theorem ds_for {ti : DTI} {tb : DTS} {body : List Stmt} {iter : Expr} (hp : PassesOwn (model X.prog X.w) X.A X.env X.xe) (hc : X.calm = true) (hi : DI X tg iter ti) (hg : DG X (List.take m) tg g) (hb : DSs X m body tb) (hs : ∀ x, foldedSetIterable iter X.env x = pure x := by intro _; rfl) : DS X m (.For tg iter body [] pos) (dFor ti g tb) :=
  ps_imp (ps_for hp hc hi hg hb hs) fun _ _ _ w => for_imp w
def dWhile (c : DTT) (tb : DTS) : DTS := fun Ds G => ∃ W : Nat → En → Prop, (∃ n, W n G) ∧ ∀ n G, W n G → c G fun G1 b => if b = true then tb ⟨fun G2 => ∃ n', n' < n ∧ W n' G2, Ds.rt⟩ G1 else Ds.nx G1
theorem ds_while {c : Expr} {tc : DTT} {tb : DTS} {body : List Stmt} (hp : PassesOwn (model X.prog X.w) X.A X.env X.xe) (hc : DT X pa c tc) (hb : DSs X m body tb) : DS X m (.While c body [] pos) (dWhile tc tb) := by
  refine ps_imp (ps_while hp hc hb) fun D σ H ⟨h, G, fp, Ds, S, ⟨W, ⟨n0, w0⟩, turn⟩, kn, kr, kx⟩ => ?_
  refine ⟨fun n σ' H' => ∃ h' G' f', Stt X.K h' H' G' σ' f' ∧ Ext h H fp h' H' f' ∧ σ'.take m = σ.take m ∧ W n G', ⟨n0, h, G, fp, S, Ext.refl h H fp, rfl, w0⟩, ?_⟩
  rintro n σ' H' ⟨h', G', f', S', e', t', w'⟩
  refine ⟨h', G', f', _, S', turn n G' w', fun b H1 ⟨h1, G1, f1, S1, e1, p1, w1⟩ => ?_⟩
  cases b with
  | true =>
    rw [if_pos rfl] at w1 ⊢
    refine ⟨fun σ2 H2 => ∃ n', n' < n ∧ ∃ h2 G2 f2, Stt X.K h2 H2 G2 σ2 f2 ∧ Ext h H fp h2 H2 f2 ∧ σ2.take m = σ.take m ∧ W n' G2, fun σ2 H2 hh => hh, h1, G1, f1, _, S1, w1, fun σ2 H2 ⟨h2, G2, f2, S2, e2, t2, n', hn, w2⟩ => ?_, fun v H2 q => kr v H2 (q.chain (e'.trans e1) t'), fun x C σ2 H2 hx q => kx x C σ2 H2 hx (q.chain (e'.trans e1) t')⟩
    exact ⟨n', hn, h2, G2, f2, S2, (e'.trans e1).trans e2, t2.trans t', w2⟩
  | false =>
    rw [if_neg Bool.false_ne_true] at w1 ⊢
    exact kn σ' H1 ⟨h1, G1, f1, S1, e'.trans e1, t', w1⟩
def wipeE (G : En) : List Nat → En
  | [] => G
  | v :: vs => (wipeE G vs).set v none
/-- behind a comprehension: the names of the block hold what they held, where that is frozen -/
def unwipe (G0 G : En) : List Nat → En
  | [] => G
  | v :: vs => (match G0[v]? with | some (some (.fz d)) => (unwipe G0 G vs).set v (some (.fz d)) | _ => unwipe G0 G vs)
def compW (g : DTG) (tt : DTT) (te : DTE) (vs : List Nat) (Q : En → List D → Prop) : List D → List D → En → Prop
  | [], acc, G => Q G acc
  | x :: r, acc, G => acc.length < 10000000 ∧ g x (wipeE G vs) fun G1 => tt G1 fun G2 b =>
      if b = true then te G2 fun G3 v => fzW G3 v fun G4 d => compW g tt te vs Q r (acc ++ [d]) G4 else compW g tt te vs Q r acc G2
def dLc (ti : DTI) (g : DTG) (tt : DTT) (te : DTE) (vs : List Nat) : DTE := fun G Q => ti G fun G1 xs => compW g tt te vs (fun G2 ds => Q (unwipe G1 (wipeE G2 vs) vs) (.t (.ls ds))) xs [] G1
theorem wipe_get : ∀ (σ : L2.St) (vs : List Nat) (j : Nat), (wipe σ vs)[j]? = if j ∈ vs then σ[j]?.map (fun _ => none) else σ[j]?
  | σ, [], j => by simp [wipe]
  | σ, v :: vs, j => by
    have ih := wipe_get σ vs j
    simp only [wipe]
    by_cases e : v = j
    · subst e
      rw [if_pos (by simp)]
      by_cases hl : v < σ.length
      · rw [List.getElem?_set_self (by rw [wipe_length]; exact hl), List.getElem?_eq_getElem hl]; rfl
      · rw [List.getElem?_eq_none (by simp [wipe_length]; omega), List.getElem?_eq_none (by omega)]; rfl
    · rw [List.getElem?_set_ne e, ih]
      simp [Ne.symm e]
theorem wipe_set {σ : L2.St} {vs : List Nat} {i : Nat} (x : Option V) (hi : i ∈ vs) : wipe (σ.set i x) vs = wipe σ vs := by
  apply List.ext_getElem?
  intro j
  rw [wipe_get, wipe_get]
  by_cases hj : j ∈ vs
  · rw [if_pos hj, if_pos hj]
    by_cases e : i = j
    · subst e
      by_cases hl : i < σ.length
      · rw [List.getElem?_set_self hl, List.getElem?_eq_getElem hl]; rfl
      · rw [List.getElem?_eq_none (by simpa using hl), List.getElem?_eq_none (by omega)]
    · rw [List.getElem?_set_ne e]
  · rw [if_neg hj, if_neg hj, List.getElem?_set_ne (fun e => hj (by rw [← e]; exact hi))]
theorem wipe_wipe (σ : L2.St) (vs : List Nat) : wipe (wipe σ vs) vs = wipe σ vs := by
  apply List.ext_getElem?
  intro j
  rw [wipe_get, wipe_get]
  by_cases hj : j ∈ vs
  · rw [if_pos hj, if_pos hj]; cases σ[j]? <;> rfl
  · rw [if_neg hj, if_neg hj]
theorem OwnE.wipe {K : PySem.W.Frag} {h H : Hp} {G : En} {σ : L2.St} {fp : List Addr} (o : OwnE K h H G σ fp) : ∀ vs : List Nat, ∃ fp', OwnE K h H (wipeE G vs) (L2.wipe σ vs) fp' ∧ fp'.Sublist fp
  | [] => ⟨fp, o, .refl _⟩
  | v :: vs => by
    obtain ⟨f1, o1, s1⟩ := o.wipe vs
    obtain ⟨f2, o2, s2⟩ := OwnE.cut v none o1
    exact ⟨f2, o2, s2.trans s1⟩
theorem Stt.wipe {K : PySem.W.Frag} {h H : Hp} {G : En} {σ : L2.St} {fp : List Addr} (S : Stt K h H G σ fp) (vs : List Nat) : ∃ fp', Stt K h H (wipeE G vs) (L2.wipe σ vs) fp' ∧ ∀ a ∈ fp', a ∈ fp := by
  obtain ⟨f, o, s⟩ := S.env.wipe vs
  exact ⟨f, ⟨S.sub, o, s.nodup S.nd⟩, fun a m => s.subset m⟩
theorem wipeE_none : ∀ (G : En) (vs : List Nat) (v : Nat), v ∈ vs → v < G.length → (wipeE G vs)[v]? = some none
  | G, w :: vs, v, m, hl => by
    have len : ∀ us : List Nat, (wipeE G us).length = G.length := fun us => by
      induction us with
      | nil => rfl
      | cons u us ih => simp only [wipeE, List.length_set, ih]
    simp only [wipeE]
    by_cases e : w = v
    · subst e; rw [List.getElem?_set_self (by rw [len]; exact hl)]
    · rw [List.getElem?_set_ne e]
      exact wipeE_none G vs v (by simpa [Ne.symm e] using m) hl
theorem OwnE.other {K : PySem.W.Frag} {h H : Hp} : ∀ {G : En} {σ σ' : L2.St} {fp : List Addr}, OwnE K h H G σ fp → σ'.length = σ.length → (∀ i : Nat, σ'[i]? ≠ σ[i]? → G[i]? = some none) → OwnE K h H G σ' fp
  | _, _, σ', _, .nil, hl, _ => by
    have : σ' = [] := List.eq_nil_of_length_eq_zero (by simpa using hl)
    subst this; exact .nil
  | _, _, [], _, .no r, hl, _ => by simp at hl
  | _, _, o :: σ', _, .no r, hl, hn => .no (r.other (by simpa using hl) fun i ne => by simpa using hn (i + 1) (by simpa using ne))
  | _, _, [], _, .so a r, hl, _ => by simp at hl
  | _, _, o :: σ', _, .so (v := v) a r, hl, hn => by
    have e : o = some v := by
      refine Classical.byContradiction fun ne => ?_
      have := hn 0 (by simpa using ne)
      simp at this
    subst e
    exact .so a (r.other (by simpa using hl) fun i ne => by simpa using hn (i + 1) (by simpa using ne))
theorem unwipe_ok {K : PySem.W.Frag} {h0 H0 h H : Hp} {G0 G : En} {σ : L2.St} {f0 fp : List Addr} (S0 : Stt K h0 H0 G0 σ f0) (s : Same h0 h) (sb : Sub h H) : ∀ (vs : List Nat), OwnE K h H G σ fp → fp.Nodup → ∃ fp', OwnE K h H (unwipe G0 G vs) σ fp' ∧ fp'.Nodup ∧ ∀ a ∈ fp', a ∈ fp
  | [], o, n => ⟨fp, o, n, fun _ m => m⟩
  | v :: vs, o, n => by
    obtain ⟨f1, o1, n1, s1⟩ := unwipe_ok S0 s sb vs o n
    unfold unwipe
    split
    · rename_i d eg
      obtain ⟨u, ev⟩ := S0.env.has eg
      obtain ⟨g1, gc, g2, _, oc, _⟩ := S0.env.slot eg ev
      cases oc with
      | fz a =>
        obtain ⟨f2, o2, n2, s2⟩ := o1.store (i := v) (by rw [o1.length]; exact (List.getElem?_eq_some_iff.mp ev).1) (.fz (a.mono s)) (by simpa using n1)
        rw [set_same ev] at o2
        exact ⟨f2, o2, n2, fun a m => s1 a (by simpa using s2 a m)⟩
    · exact ⟨f1, o1, n1, s1⟩
theorem Ats.append {K : PySem.W.Frag} {h : Hp} : ∀ {l m : List D} {l' m' : List V}, Ats K h l l' → Ats K h m m' → Ats K h (l ++ m) (l' ++ m')
  | _, _, _, _, .nil, b => b
  | _, _, _, _, .cons a r, b => .cons a (Ats.append r b)
theorem lc_imp {pt pc : Bool} {ti : DTI} {tt : DTT} {vs : List Nat} {σ : L2.St} {H : Hp} {Q : VK} (hob : ∀ σ : L2.St, L2.wipe (L2.wipe σ vs) vs = L2.wipe σ vs) (w : sE X.K pb (dLc ti g tt te vs) σ H Q) (hpb : pb = false) :
    tLc (sI X.K ti) (sG X.K (fun σ => L2.wipe σ vs) g) (sT X.K pt tt) (sE X.K pc te) vs σ H Q := by
  subst hpb
  obtain ⟨h, G, fp, Q', S, w, c⟩ := w
  refine ⟨h, G, fp, _, S, w, fun J H1 ⟨h1, G1, f1, xs, S1, e1, gv, w1⟩ => ?_⟩
  intro D nD
  have hD1 : h1 D = none := by
    cases q : h1 D with
    | none => rfl
    | some o => obtain ⟨u, e⟩ := S1.sub.there q; rw [nD] at e; cases e
  refine ⟨fun i mm H' => mm = xs.length - i ∧ i ≤ xs.length ∧ ∃ h' G' f' acc va, H' D = some (.lst va) ∧ Ats X.K h' acc va ∧ h' D = none ∧ D ∉ f' ∧ Stt X.K h' H' (wipeE G' vs) (L2.wipe σ vs) f' ∧ Ext h1 (upd H1 D (.lst [])) f1 h' (upd H' D (.lst [])) f' ∧ Same h1 h' ∧
      compW g tt te vs (fun G2 ds => Q' (unwipe G1 (wipeE G2 vs) vs) (.t (.ls ds))) (xs.drop i) acc G', ⟨xs.length, rfl, Nat.zero_le _, ?_⟩, ?_⟩
  · have Sn : Stt X.K h1 (upd H1 D (.lst [])) G1 σ f1 := S1.grow (Same.refl h1) (fun a o e => by
      rw [upd_ne (fun z => by subst z; rw [hD1] at e; cases e)]; exact S1.sub a o e) (fun a o e => by rw [upd_ne (ne_of_none e nD)]; exact e) fun _ _ e => .inl e
    obtain ⟨f2, S2, s2⟩ := Sn.wipe vs
    refine ⟨h1, G1, f2, [], [], upd_same, .nil, hD1, fun m => ?_, S2, ?_, Same.refl h1, w1⟩
    · obtain ⟨_, u, e⟩ := S1.env.there D (s2 D m); rw [nD] at e; cases e
    · rw [upd_upd]
      exact (Ext.refl h1 _ f1).weak s2
  · rintro i mm H' ⟨rfl, hi, h', G', f', acc, va, eD, ac, nh, nf, S', e', s', w'⟩
    have z' : Frz H1 H' := fun a o u q => by
      have nD' : a ≠ D := fun z => by subst z; rw [nD] at q; cases q
      have na : a ∉ f1 := fun m => S1.env.nofrz a m o u q
      rcases e'.fr a _ na (by rw [upd_ne nD']; exact q) with r | ⟨d, _⟩
      · rw [upd_ne nD'] at r; exact r
      · cases d
    obtain ⟨go, stop⟩ := gv h' H' s' z' S'.sub
    by_cases hlt : i < xs.length
    · have ex : xs[i]? = some xs[i] := List.getElem?_eq_getElem hlt
      obtain ⟨g1, g2⟩ := go i _ ex
      rw [drop_cons ex] at w'
      obtain ⟨hlen, w'⟩ := w'
      refine .inr ⟨g1, fun H2 => i + 1 ≤ xs.length ∧ ∃ h2 G2 f2 acc va, H2 D = some (.lst va) ∧ Ats X.K h2 acc va ∧ h2 D = none ∧ D ∉ f2 ∧ Stt X.K h2 H2 (wipeE G2 vs) (L2.wipe σ vs) f2 ∧ Ext h1 (upd H1 D (.lst [])) f1 h2 (upd H2 D (.lst [])) f2 ∧ Same h1 h2 ∧
          compW g tt te vs (fun G2 ds => Q' (unwipe G1 (wipeE G2 vs) vs) (.t (.ls ds))) (xs.drop (i + 1)) acc G2, fun H2 hh => ⟨xs.length - (i + 1), by omega, rfl, hh⟩, fun x H2 y => ?_⟩
      obtain ⟨h2, q1, q2, q3, q4, ax⟩ := g2 x H2 y
      have S2 := S'.grow q1 q2 q3 q4
      have x2 : Ext h' H' f' h2 H2 f' := Ext.same q1 q3 q4
      -- what every step keeps of D
      have keepD : ∀ {h3 H3 f3}, Ext h' H' f' h3 H3 f3 → H3 D = some (.lst va) ∧ h3 D = none ∧ D ∉ f3 := fun {h3 H3 f3} x => by
        refine ⟨(x.fr D _ nf eD).elim id (fun ⟨d, _⟩ => by cases d), ?_, fun m => ?_⟩
        · cases q : h3 D with
          | none => rfl
          | some o =>
            rcases x.hn D o q with r | r | r
            · rw [nh] at r; cases r
            · exact (nf r).elim
            · rcases r with r | ⟨_, r⟩ <;> (rw [eD] at r; cases r)
        · rcases x.nw D m with r | r
          · exact nf r
          · rw [eD] at r; cases r
      have lift : ∀ {h3 H3 f3}, Ext h' H' f' h3 H3 f3 → ∀ z, Ext h1 (upd H1 D (.lst [])) f1 h3 (upd (upd H3 D z) D (.lst [])) f3 := fun {h3 H3 f3} x z => by
        rw [upd_upd]
        refine e'.trans ⟨x.gh, fun a o m e => ?_, fun a m => ?_, fun a o e => ?_⟩
        · by_cases d : a = D
          · subst d; rw [upd_same] at e ⊢; exact .inl e
          · rw [upd_ne d] at e ⊢; exact x.fr a o m e
        · rcases x.nw a m with r | r
          · exact .inl r
          · right; rw [upd_ne (fun d => by subst d; rw [eD] at r; cases r)]; exact r
        · rcases x.hn a o e with r | r | r
          · exact .inl r
          · exact .inr (.inl r)
          · have d : a ≠ D := fun d => by subst d; rcases r with r | ⟨_, r⟩ <;> (rw [eD] at r; cases r)
            right; right; exact r.imp (fun r => by rw [upd_ne d]; exact r) fun ⟨vs, r⟩ => ⟨vs, by rw [upd_ne d]; exact r⟩
      refine ⟨h2, wipeE G' vs, f', _, _, S2, ax, w', fun σ3 H3 ⟨h3, G3, f3, S3, x3, t3, w3⟩ => ?_⟩
      refine ⟨t3.trans (wipe_wipe σ vs), h3, G3, f3, _, S3, w3, fun b H4 ⟨h4, G4, f4, S4, x4, p4, w4⟩ => ?_⟩
      have x24 := (x2.trans x3).trans x4
      cases b with
      | true =>
        dsimp only
        rw [if_pos rfl] at w4 ⊢
        refine ⟨h4, G4, f4, _, S4, w4, fun v H5 ⟨h5, G5, f5, vl, fv, r5, w5⟩ => ?_⟩
        obtain ⟨h6, G6, f6, d, S6, a6, x6, w6⟩ := r5.fz w5
        have x26 := x24.trans x6
        obtain ⟨k1, k2, k3⟩ := keepD x26
        refine ⟨va, k1, ?_, hlt, ?_⟩
        · rw [← ac.length]; exact Nat.lt_of_lt_of_le hlen (by decide)
        · obtain ⟨f7, S7, s7⟩ := S6.wipe vs
          have ht : L2.wipe σ3 vs = L2.wipe σ vs := t3.trans (wipe_wipe σ vs)
          rw [ht] at S7
          have nf7 : D ∉ f7 := fun m => k3 (s7 D m)
          refine ⟨h6, G6, f7, acc ++ [d], va ++ [v], upd_same, ?_, k2, nf7, ⟨fun a o e => ?_, ?_, S7.nd⟩, (lift x26 _).weak s7, s'.trans x26.gh, w6⟩
          · exact Ats.append (ac.mono x26.gh) (.cons a6 .nil)
          · rw [upd_ne (fun z => by subst z; rw [k2] at e; cases e)]; exact S7.sub a o e
          · exact S7.env.move (Same.refl h6) (fun a m => upd_ne fun z => nf7 (z ▸ m)) fun a m => (S7.env.there a m).1
      | false =>
        dsimp only
        rw [if_neg Bool.false_ne_true] at w4 ⊢
        obtain ⟨k1, k2, k3⟩ := keepD x24
        obtain ⟨f7, S7, s7⟩ := S4.wipe vs
        have ht : L2.wipe σ3 vs = L2.wipe σ vs := t3.trans (wipe_wipe σ vs)
        rw [ht] at S7
        have l2 := lift x24 (.lst [])
        rw [upd_upd] at l2
        exact ⟨hlt, h4, G4, f7, acc, va, k1, ac.mono x24.gh, k2, fun m => k3 (s7 D m), S7, l2.weak s7, s'.trans x24.gh, w4⟩
    · have e : i = xs.length := by omega
      subst e
      rw [List.drop_length] at w'
      refine .inl ⟨stop, c _ _ ?_⟩
      -- the block is left
      have ln : (L2.wipe σ vs).length = σ.length := wipe_length σ vs
      have o1 : OwnE X.K h' H' (wipeE G' vs) σ f' := S'.env.other ln.symm fun j ne => by
        rw [wipe_get] at ne
        have hj : j ∈ vs := Classical.byContradiction fun z => ne (by rw [if_neg z])
        have hl : j < σ.length := Classical.byContradiction fun z => ne (by rw [if_pos hj, List.getElem?_eq_none (by omega)]; rfl)
        have lg : (wipeE G' vs).length = σ.length := S'.env.length.trans ln
        have len : ∀ us : List Nat, (wipeE G' us).length = G'.length := fun us => by
          induction us with
          | nil => rfl
          | cons u us ih => simp only [wipeE, List.length_set, ih]
        exact wipeE_none G' vs j hj (by rw [← len vs, lg]; exact hl)
      obtain ⟨f8, o8, n8, s8⟩ := unwipe_ok S1 s' S'.sub vs o1 S'.nd
      refine ⟨h', _, f8, .t (.ls acc), [D], ⟨⟨S'.sub, o8, n8⟩, .t (.ls nh eD ac), ?_, ?_, fun z => by cases z⟩, w'⟩
      · exact List.nodup_append.mpr ⟨n8, by simp, fun x hx y hy e => by simp at hy; subst hy; subst e; exact nf (s8 _ hx)⟩
      · refine e1.trans ⟨s', fun a o m e => ?_, fun a m => ?_, fun a o e => ?_⟩
        · have nd : a ≠ D := fun z => by subst z; rw [nD] at e; cases e
          have := e'.fr a o m (by rw [upd_ne nd]; exact e)
          rw [upd_ne nd] at this; exact this
        · rcases List.mem_append.mp m with m | m
          · rcases e'.nw a (s8 a m) with r | r
            · exact .inl r
            · have nd : a ≠ D := fun z => nf (by rw [← z]; exact s8 a m)
              rw [upd_ne nd] at r; exact .inr r
          · simp at m; subst m; exact .inr nD
        · rcases e'.hn a o e with r | r | r
          · exact .inl r
          · exact .inr (.inl r)
          · have nd : a ≠ D := fun z => by subst z; rw [nh] at e; cases e
            exact .inr (.inr (r.imp (fun r => by rw [upd_ne nd] at r; exact r) fun ⟨vs, r⟩ => ⟨vs, by rw [upd_ne nd] at r; exact r⟩))
end
end DL
namespace DL
open PySem PySem.Spec L2
section
variable {X : Cx} {pa pt pc : Bool} {m : Nat} {tg iter elt : Expr} {ifs : List Expr} {ti : DTI} {g : DTG} {tt : DTT} {te : DTE} {pos : Pos}
def dYes : DTT := fun G Q => Q G true
def DTs (X : Cx) (pu : Bool) (es : List Expr) (t : DTT) : Prop := PTs X es (sT X.K pu t)
theorem dts_nil : DTs X true [] dYes := ⟨fun pins s σ H Q I ⟨h, G, fp, Q', S, w, c⟩ => (pts_nil (X := X)).run pins s σ H Q I (c true H ⟨h, G, fp, S, Ext.refl h H fp, fun _ => ⟨rfl, rfl, fun _ _ => rfl⟩, w⟩)⟩
theorem dts_one {c : Expr} {t : DTT} (h : DT X pa c t) : DTs X pa [c] t := pts_one h
theorem de_lc {scope : Scope} {own : List (Str × Nat)} (hc : X.calm = true) (hN : X.N.Nodup) (hi : DI X tg iter ti) (ok : BlkOk X.N X.env.scope scope own)
    (hg : ∀ (s : Shared) (H : Hp) (C : Addr) (cl : List (Str × Addr)) (fp : List Addr), DG (X.blk s H scope (compEnvC scope cl C X.env) fp) (fun σ => wipe σ (own.map (·.2))) tg g)
    (ht : ∀ (s : Shared) (H : Hp) (C : Addr) (cl : List (Str × Addr)) (fp : List Addr), DTs (X.blk s H scope (compEnvC scope cl C X.env) fp) pt ifs tt)
    (he : ∀ (s : Shared) (H : Hp) (C : Addr) (cl : List (Str × Addr)) (fp : List Addr), DE (X.blk s H scope (compEnvC scope cl C X.env) fp) pc elt te) (hs : ∀ x, foldedSetIterable iter X.env x = pure x := by intro _; rfl) :
    DE X false (.ListComp elt [⟨tg, iter, ifs, 0⟩] scope pos) (dLc ti g tt te (own.map (·.2))) :=
  pe_imp (pe_lc (g := sG X.K (fun σ => wipe σ (own.map fun x : Str × Nat => x.2)) g) (tt := sT X.K pt tt) (te := sE X.K pc te) hc hN hi ok hg ht he hs) fun _ _ _ w => lc_imp (fun _ => wipe_wipe _ _) w rfl
theorem ds_setLc {i : Nat} {y : Str} {py spos : Pos} {scope : Scope} {own : List (Str × Nat)} (hc : X.calm = true) (hN : X.N.Nodup) (hy : X.N[i]? = some y) (hyl : X.env.scope.names.lookup y = some .local)
    (hsw : swapsWith (.ListComp elt [⟨tg, iter, ifs, 0⟩] scope pos) (some (.Name y py)) spos.line X.env = pure true) (hm : m ≤ i) (hi : DI X tg iter ti) (ok : BlkOk X.N X.env.scope scope own)
    (hg : ∀ (s : Shared) (H : Hp) (C : Addr) (cl : List (Str × Addr)) (fp : List Addr), DG (X.blk s H scope (compEnvC scope cl C X.env) fp) (fun σ => wipe σ (own.map (·.2))) tg g)
    (ht : ∀ (s : Shared) (H : Hp) (C : Addr) (cl : List (Str × Addr)) (fp : List Addr), DTs (X.blk s H scope (compEnvC scope cl C X.env) fp) pt ifs tt)
    (he : ∀ (s : Shared) (H : Hp) (C : Addr) (cl : List (Str × Addr)) (fp : List Addr), DE (X.blk s H scope (compEnvC scope cl C X.env) fp) pc elt te) (hs : ∀ x, foldedSetIterable iter X.env x = pure x := by intro _; rfl) :
    DS X m (.Assign [.Name y py] (.ListComp elt [⟨tg, iter, ifs, 0⟩] scope pos) spos) (dSet i (dLc ti g tt te (own.map (·.2)))) :=
  ps_imp (ps_setLc (g := sG X.K (fun σ => wipe σ (own.map fun x : Str × Nat => x.2)) g) (tt := sT X.K pt tt) (te := sE X.K pc te) hc hN hy hyl hsw hi ok hg ht he hs) fun D σ H w => by
    have q := set_imp (pa := false) hm w
    have q2 : sE X.K false (dLc ti g tt te (own.map (·.2))) σ H (fun x H1 => gName i x σ H1 D.nx) := q
    exact lc_imp (fun _ => wipe_wipe _ _) q2 rfl
end
def retW (m : Nat) (R : En → T → Prop) (G : En) (vl : Vl) : Prop := match vl with
  | .t t => R (G.take m) t
  | .pk i none => m ≤ i ∧ ((match G[i]? with | some (some t) => R (G.take m) t | _ => False) ∨ fzW G (.pk i none) fun G' d => R (G'.take m) (.fz d))
  | .pk i (some s) => fzW G (.pk i (some s)) fun G' d => R (G'.take m) (.fz d)
section
variable {K : PySem.W.Frag} {h H : Hp}
theorem OwnE.parts : ∀ {G : En} {σ : L2.St} {fp : List Addr} (m : Nat), OwnE K h H G σ fp → ∃ f1 f2, fp = f1 ++ f2 ∧ OwnE K h H (G.take m) (σ.take m) f1 ∧ OwnE K h H (G.drop m) (σ.drop m) f2
  | G, σ, fp, 0, o => ⟨[], fp, rfl, .nil, o⟩
  | _, _, _, m + 1, .nil => ⟨[], [], rfl, .nil, .nil⟩
  | _, _, _, m + 1, .no r => by
    obtain ⟨f1, f2, e, a, b⟩ := r.parts m
    exact ⟨f1, f2, e, .no a, b⟩
  | _, _, _, m + 1, .so (f1 := g) a r => by
    obtain ⟨f1, f2, e, c, b⟩ := r.parts m
    exact ⟨g ++ f1, f2, by rw [e, List.append_assoc], .so a c, b⟩
theorem OwnE.blank : ∀ n : Nat, OwnE K h H (List.replicate n none) (List.replicate n none) []
  | 0 => .nil
  | n + 1 => by rw [List.replicate_succ, List.replicate_succ]; exact .no (OwnE.blank n)
theorem Owns.env {k : Nat} : ∀ {ts : List T} {vs : List V} {fp : List Addr}, Owns K h H ts vs fp → OwnE K h H (ts.map some ++ List.replicate k none) (vs.map some ++ List.replicate k none) fp
  | _, _, _, .nil => OwnE.blank k
  | _, _, _, .cons a r => .so a r.env
theorem Owns.length : ∀ {ts : List T} {vs : List V} {fp : List Addr}, Owns K h H ts vs fp → ts.length = vs.length
  | _, _, _, .nil => rfl
  | _, _, _, .cons _ r => by simp [r.length]
/-- the end of a def: what the caller asked holds -/
theorem ret_ok {m : Nat} {σ : L2.St} {vs : List V} {fp : List Addr} {R : En → T → Prop} {Q : VK} {v : V} {H' : Hp} (hσ : σ.take m = (vs.take m).map some)
    (cont : ∀ v H' h' outs t fo fv, Sub h' H' → OwnE K h' H' outs ((vs.take m).map some) fo → Own K h' H' t v fv → (fo ++ fv).Nodup → Ext h H fp h' H' (fo ++ fv) → R outs t → Q v H')
    (r : RPost K (List.take m) σ h H fp (retW m R) v H') : Q v H' := by
  obtain ⟨h', G', fp', σ', vl, fv, S, ov, nd, ex, tk, w⟩ := r
  have tk2 : σ'.take m = (vs.take m).map some := tk.trans hσ
  obtain ⟨f1, f2, ef, o1, o2⟩ := S.env.parts m
  rw [tk2] at o1
  cases ov with
  | t o =>
    subst ef
    rw [List.append_assoc] at nd ex
    have sl : (f1 ++ fv).Sublist (f1 ++ (f2 ++ fv)) := (List.Sublist.refl f1).append (List.sublist_append_right f2 fv)
    exact cont v H' h' _ _ f1 fv S.sub o1 o (sl.nodup nd) (ex.weak fun a m => sl.subset m) w
  | @pk i p v t l e =>
    cases p with
    | none =>
      obtain ⟨hi, w⟩ := w
      rcases w with w | w
      case inr =>
        have r : Res K false σ' h H G' fp h' H' G' fp' (.pk i none) v [] := ⟨S, .pk l e, nd, ex, fun z => by cases z⟩
        obtain ⟨h2, G2, f2', d, S2, a2, e2, w2⟩ := r.fz w
        obtain ⟨g1, g2, eg, q1, q2⟩ := S2.env.parts m
        rw [tk2] at q1
        subst eg
        exact cont v H' h2 _ _ g1 [] S2.sub q1 (.fz a2) (by simpa using (List.nodup_append.mp S2.nd).1) (e2.weak fun a m => by simp at m ⊢; simp [m]) w2
      obtain ⟨v0, ev, rfl⟩ := l
      split at w
      · rename_i t' eg
        have eg2 : (G'.drop m)[i - m]? = some (some t') := by rw [List.getElem?_drop, show m + (i - m) = i by omega]; exact eg
        have ev2 : (σ'.drop m)[i - m]? = some (some v) := by rw [List.getElem?_drop, show m + (i - m) = i by omega]; exact ev
        obtain ⟨g1, gc, g2, eq, oc, _⟩ := o2.slot eg2 ev2
        subst eq
        subst ef
        have sl : (f1 ++ gc).Sublist (f1 ++ (g1 ++ gc ++ g2)) := (List.Sublist.refl f1).append ((List.sublist_append_right g1 gc).trans (List.sublist_append_left _ g2))
        exact cont v H' h' _ _ f1 gc S.sub o1 oc (sl.nodup S.nd) (ex.weak fun a m => by simpa using sl.subset m) w
      · exact w.elim
    | some s =>
      have r : Res K false σ' h H G' fp h' H' G' fp' (.pk i (some s)) v [] := ⟨S, .pk l e, nd, ex, fun z => by cases z⟩
      have w : fzW G' (.pk i (some s)) (fun G' d => R (G'.take m) (.fz d)) := w
      obtain ⟨h2, G2, f2', d, S2, a2, e2, w2⟩ := r.fz w
      obtain ⟨g1, g2, eg, q1, q2⟩ := S2.env.parts m
      rw [tk2] at q1
      subst eg
      exact cont v H' h2 _ _ g1 [] S2.sub q1 (.fz a2) (by simpa using (List.nodup_append.mp S2.nd).1) (e2.weak fun a m => by simp at m ⊢; simp [m]) w2
theorem retW_exc {m : Nat} {R : En → T → Prop} {G : En} {x : Str} (gl : G.length ≤ 1000000) (q : retW m R G (exc x)) : False := by
  have e : G[1000000]? = none := List.getElem?_eq_none gl
  have q : fzW G (.pk 1000000 (some (.fd x))) (fun G' d => R (G'.take m) (.fz d)) := q
  unfold fzW atE at q
  simp only [e] at q
theorem body_ok {X : Cx} {n m : Nat} {F : FS} {st : List Stmt} {body : DTS} {vs : List V} {H : Hp} {Q : VK} {E : XK} {N : List Str} (hX : X.K = K) (hm : m ≤ n) (d : DSs X m st body)
    (law : ∀ ts R, ts.length = n → F ts R → body ⟨fun G => R (G.take m) (.fz .non), retW m R⟩ (ts.map some ++ List.replicate (N.length - n) none)) (sp : spOf K n m F vs H Q E) :
    ∃ t, PSs X st t ∧ t { nx := fun _ H' => Q .non H', rt := Q } (L2.start N vs) H := by
  subst hX
  obtain ⟨hl, h, ts, fp, R, sb, ow, nd, w, cont⟩ := sp
  have hlt : ts.length = n := ow.length.trans hl
  have hσ : (L2.start N vs).take m = (vs.take m).map some := by
    unfold L2.start
    rw [List.take_append_of_le_length (by simp; omega), List.map_take]
  refine ⟨_, d, h, _, fp, _, ⟨sb, ?_, nd⟩, law ts R hlt w, fun σ' H' ⟨h', G', fp', S, ex, tk, q⟩ => ?_, fun v H' r => ret_ok hσ cont r, fun x C σ' H' _ ⟨h', G', fp', S, ex, tk, gl, q⟩ => (retW_exc (x := x) gl q).elim⟩
  · unfold L2.start; rw [hl]; exact ow.env
  · obtain ⟨f1, f2, ef, o1, o2⟩ := S.env.parts m
    rw [show List.take m σ' = (vs.take m).map some from tk.trans hσ] at o1
    subst ef
    exact cont .non H' h' _ _ f1 [] S.sub o1 (.fz .non) (by simpa using (List.nodup_append.mp S.nd).1) (ex.weak fun a m => by simp at m ⊢; simp [m]) q
end
section
variable {P : Program} {w : World} {K : PySem.W.Frag} {mg : Str → Option Value} {base : Heap}
open PyProof.Rows in
theorem fn_mk {x : Str} {st : Stmt} {f : Addr} {fd : FuncData} {N ps : List Str} {k n m : Nat} {F : FS} {body : DTS} (Fd : C8.Def K mg x st f fd) (b : Binds K fd ps []) (S : FnScope N ps (C8.fnScope st)) (hn : ps.length = n) (hm : m ≤ n)
    (d : ∀ (cdv : Value) (A : Around) (outer : List Env) (s : Shared) (H : Hp) (E : XK), A.guards = some [] → Room k (A.deeper (envOfC x (C8.fnScope st) s.heap.objs.size f cdv)) → DSs (cxOf C8.CX0 P w K mg base N x (C8.fnScope st) f cdv A outer s H E).nox m (C8.fnBody st) body)
    (law : ∀ ts R, ts.length = n → F ts R → body ⟨fun G => R (G.take m) (.fz .non), retW m R⟩ (ts.map some ++ List.replicate (N.length - n) none)) : Fn P w K mg base (k + 1) x n m F :=
  ⟨f, fd, ps, fnG_of Fd.fn S (fun vs H Q E sp => sp.1.trans hn.symm) fun cdv A outer s H vs Q E hg hr sp => body_ok rfl hm (d cdv A outer s H E hg hr) law sp, Fd.mgf, Fd.kp, b⟩
end
end DL
namespace DL
open PySem PySem.Spec L2
def addD : D2 := fun x y R => match x, y with
  | .int i, .int j => R (.fz (.int (i + j)))
  | .lst a, .lst b => a.length + b.length ≤ 10000000 ∧ R (.ls (a ++ b))
  | .tup a, .tup b => a.length + b.length ≤ 10000000 ∧ R (.fz (.tup (a ++ b)))
  | .str a, .str b => a.length + b.length ≤ 10000000 ∧ R (.fz (.str (a ++ b)))
  | _, _ => False
def subD : D2 := fun x y R => match x, y with
  | .int i, .int j => R (.fz (.int (i - j)))
  | _, _ => False
/-- one factor below 2 ^ 64, or both below 2 ^ 5000 -/
def mulOk (i j : Int) : Prop := CMul i j ∨ (i.natAbs < 2 ^ 5000 ∧ j.natAbs < 2 ^ 5000)
def repl {α : Type} (k : Nat) (a : List α) : List α := (List.replicate k a).flatten
def mulD : D2 := fun x y R => match x, y with
  | .int i, .int j => mulOk i j ∧ R (.fz (.int (i * j)))
  | .lst a, .int k => -(2 ^ 63) ≤ k ∧ k < 2 ^ 63 ∧ a.length * k.toNat ≤ 10000000 ∧ R (.ls (repl k.toNat a))
  | .tup a, .int k => a ≠ [] ∧ 2 ≤ k ∧ k ≤ 1000 ∧ a.length ≤ 1000 ∧ R (.fz (.tup (repl k.toNat a)))
  | _, _ => False
def divD : D2 := fun x y R => match x, y with
  | .int i, .int j => (0 < j ∧ j < 2 ^ 5000) ∧ R (.fz (.int (i / j)))
  | _, _ => False
def modD : D2 := fun x y R => match x, y with
  | .int i, .int j => 0 < j ∧ R (.fz (.int (i % j)))
  | _, _ => False
def powD : D2 := fun x y R => match x, y with
  | .int i, .int j => CPow i j ∧ R (.fz (.int (i ^ j.toNat)))
  | _, _ => False
def negD : D1 := fun x R => match x with
  | .int i => R (.fz (.int (-i)))
  | _ => False
theorem Ats.app {K : PySem.W.Frag} {h : Hp} {l m : List D} {l' m' : List V} (a : Ats K h l l') (b : Ats K h m m') : Ats K h (l ++ m) (l' ++ m') := Ats.append a b
theorem Ats.nil_iff {K : PySem.W.Frag} {h : Hp} {l : List D} {l' : List V} (a : Ats K h l l') : l = [] ↔ l' = [] := by cases a <;> simp
theorem Ats.repl {K : PySem.W.Frag} {h : Hp} {l : List D} {l' : List V} (a : Ats K h l l') : ∀ k : Nat, Ats K h (DL.repl k l) (List.replicate k l').flatten
  | 0 => .nil
  | k + 1 => by
    unfold DL.repl
    rw [List.replicate_succ, List.replicate_succ, List.flatten_cons, List.flatten_cons]
    exact a.app (a.repl k)
theorem sz100 {n : Nat} (h : n ≤ 10000000) : n ≤ sizeLine := Nat.le_trans h (by decide)
theorem opk_of {X : Cx} {f : Value → Value → Sem Value} {r : R2} {k : D2} (o : OpR X f r) (h : ∀ x y H Q, rOf X.K k x y H Q → r x y H Q) : OpK X f k := fun pins s σ H x y v u Q I rx ry q => o pins s σ H x y v u Q I rx ry (h _ _ _ _ q)
section
variable {X : Cx}
theorem add_ok : OpK X (binaryOp .Add) addD := by
  refine opk_of (op_add.or (op_cat.or (op_catA.or op_add_str))) fun x y H Q ⟨h, dx, dy, R, sb, ax, ay, w, c⟩ => ?_
  unfold addD at w
  split at w
  · exact .inl ⟨_, _, ax.int, ay.int, c _ H (.plain sb .int w)⟩
  · obtain ⟨p, vs, rfl, r, al⟩ := ax.lst sb
    obtain ⟨q, us, rfl, r2, al2⟩ := ay.lst sb
    exact .inr (.inl ⟨p, q, vs, us, rfl, rfl, r, r2, by rw [← al.length, ← al2.length]; exact sz100 w.1, fun p np => c _ _ (.list sb np (al.app al2) w.2)⟩)
  · obtain ⟨p, vs, rfl, r, al⟩ := ax.tup sb
    obtain ⟨q, us, rfl, r2, al2⟩ := ay.tup sb
    refine .inr (.inr (.inl ⟨p, q, vs, us, rfl, rfl, SqT.of r, SqT.of r2, by rw [← al.length, ← al2.length]; exact sz100 w.1, fun e => ?_, fun e e2 => ?_, fun _ _ p np => c _ _ (.tup sb np (al.app al2) w.2)⟩))
    · have z := al.nil_iff.mpr e
      subst z
      cases ay with
      | of a => exact c _ H (.plain sb a w.2)
    · have z := al2.nil_iff.mpr e2
      subst z
      have w2 := w.2
      rw [List.append_nil] at w2
      cases ax with
      | of a => exact c _ H (.plain sb a w2)
  · exact .inr (.inr (.inr ⟨_, _, ax.str, ay.str, sz100 w.1, c _ H (.plain sb .str w.2)⟩))
  · exact w.elim
theorem sub_ok : OpK X (binaryOp .Sub) subD := by
  refine opk_of op_sub fun x y H Q ⟨h, dx, dy, R, sb, ax, ay, w, c⟩ => ?_
  unfold subD at w
  split at w
  · exact ⟨_, _, ax.int, ay.int, c _ H (.plain sb .int w)⟩
  · exact w.elim
theorem neg_ok : UnK X (unaryOp .USub) negD := by
  have o : UnR X (unaryOp .USub) _ := un_neg
  intro pins s σ H x v Q I rx ⟨h, dx, R, sb, ax, w, c⟩
  refine o pins s σ H x v Q I rx ?_
  unfold negD at w
  split at w
  · exact ⟨_, ax.int, c _ H (.plain sb .int w)⟩
  · exact w.elim
theorem mod_ok : OpK X (binaryOp .Mod) modD := by
  refine opk_of op_mod fun x y H Q ⟨h, dx, dy, R, sb, ax, ay, w, c⟩ => ?_
  unfold modD at w
  split at w
  · exact ⟨_, _, ax.int, ay.int, w.1, c _ H (.plain sb .int w.2)⟩
  · exact w.elim
theorem pow_ok : OpK X (binaryOp .Pow) powD := by
  refine opk_of op_pow fun x y H Q ⟨h, dx, dy, R, sb, ax, ay, w, c⟩ => ?_
  unfold powD at w
  split at w
  · exact ⟨_, _, ax.int, ay.int, w.1, c _ H (.plain sb .int w.2)⟩
  · exact w.elim
def cmpI (p : Int → Int → Bool) : D2 := fun x y R => match x, y with
  | .int i, .int j => R (.fz (.bl (p i j)))
  | _, _ => False
theorem cmpI_of {op : CmpOp} {p : Int → Int → Bool} (o : OpR X (compareOp op) (rI0 fun i j => .bl (p i j))) : OpK X (compareOp op) (cmpI p) := by
  refine opk_of o fun x y H Q ⟨h, dx, dy, R, sb, ax, ay, w, c⟩ => ?_
  unfold cmpI at w
  split at w
  · exact ⟨_, _, ax.int, ay.int, c _ H (.plain sb .bl w)⟩
  · exact w.elim
theorem lt_ok : OpK X (compareOp .Lt) (cmpI fun i j => decide (i < j)) := cmpI_of op_lt
theorem le_ok : OpK X (compareOp .LtE) (cmpI fun i j => decide (i ≤ j)) := cmpI_of op_le
theorem gt_ok : OpK X (compareOp .Gt) (cmpI fun i j => decide (j < i)) := cmpI_of op_gt
theorem ge_ok : OpK X (compareOp .GtE) (cmpI fun i j => decide (j ≤ i)) := cmpI_of op_ge
end
mutual
/-- the library's data -/
def D.py : D → PyData
  | .non => .none
  | .bl b => .bool b
  | .int i => .int i
  | .str x => .str x
  | .tup l => .tuple (D.pys l)
  | .ctup l => .tuple (D.pys l)
  | .lst l => .list (D.pys l)
  | .opq _ => .dict []
  | .dK _ => .dict []
  | .dT _ => .dict []
  | .scr _ => .dict []
  | .exn _ => .dict []
def D.pys : List D → List PyData
  | [] => []
  | d :: r => d.py :: D.pys r
end
mutual
theorem At.dp {K : PySem.W.Frag} {h H : Hp} (sb : Sub h H) : ∀ {d v}, At K h d v → d.py.canLay0 = true → Dp K H v d.py
  | _, _, .non, _ => .non
  | _, _, .bl, _ => .bl _
  | _, _, .int, _ => .int _
  | _, _, .str, _ => .str _
  | _, _, .tup e r, c => .tup (SqT.of (sb.tup e)) (Ats.dp sb r c)
  | _, _, .ctup e r, c => .tup (sb.sqt e) (Ats.dp sb r c)
  | _, _, .lst e r, c => .lst (SqL.of (sb.lst e)) (Ats.dp sb r c)
  | _, _, .scr _, c => by simp [D.py, PyData.canLay0] at c
  | _, _, .exn .., c => by simp [D.py, PyData.canLay0] at c
  | _, _, .opq, c => by simp [D.py, PyData.canLay0] at c
  | _, _, .dK .., c => by simp [D.py, PyData.canLay0] at c
  | _, _, .dT .., c => by simp [D.py, PyData.canLay0] at c
theorem Ats.dp {K : PySem.W.Frag} {h H : Hp} (sb : Sub h H) : ∀ {d v}, Ats K h d v → PyData.canLayAll0 (D.pys d) = true → DpAll K H v (D.pys d)
  | _, _, .nil, _ => .nil
  | _, _, .cons a r, c => by
    simp only [D.pys, PyData.canLayAll0, Bool.and_eq_true] at c
    exact .cons (At.dp sb a c.1) (Ats.dp sb r c.2)
end
theorem AtR.dp {K : PySem.W.Frag} {h H : Hp} (sb : Sub h H) {d : D} {v : V} (a : AtR K h H d v) (c : d.py.canLay0 = true) : Dp K H v d.py := by
  cases a with
  | of a => exact a.dp sb c
  | ls e r => exact .lst (SqL.of e) (r.dp sb c)
  | dk _ _ => simp [D.py, PyData.canLay0] at c
  | dt _ _ => simp [D.py, PyData.canLay0] at c
/-- data that may be compared -/
def D.shp (d : D) : Prop := SeqAt.shaped d.py = true
def D.eqv (a b : D) : Bool := PyData.eqv a.py b.py
def eqD : D2 := fun x y R => x.shp ∧ y.shp ∧ R (.fz (.bl (D.eqv x y)))
def neD : D2 := fun x y R => x.shp ∧ y.shp ∧ R (.fz (.bl (!D.eqv x y)))
/-- x in y: a list, a tuple, a dict -/
def inD (neg : Bool) : D2 := fun x y R => match y with
  | .lst l => x.shp ∧ (D.lst l).shp ∧ R (.fz (.bl (neg != l.any fun z => D.eqv z x)))
  | .tup l => x.shp ∧ (D.tup l).shp ∧ R (.fz (.bl (neg != l.any fun z => D.eqv z x)))
  | .dK l => (match keyOf x with | some k => R (.fz (.bl (neg != (look l k).isSome))) | none => False)
  | .dT l => (match x with | .tup ds => (match keysOf ds with | some k => R (.fz (.bl (neg != (look l k).isSome))) | none => False) | _ => False)
  | _ => False
def isNoneD (neg : Bool) : D2 := fun x y R => match y with
  | .non => (match x with | .opq _ => False | .non => R (.fz (.bl (neg != true))) | _ => R (.fz (.bl (neg != false))))
  | _ => False
theorem pys_any (l : List D) (x : D) : ((D.pys l).any fun z => PyData.eqv z x.py) = l.any fun z => D.eqv z x := by
  induction l with
  | nil => rfl
  | cons d r ih => simp [D.pys, ih, D.eqv]
section
variable {X : Cx}
theorem eq_ok (hu : X.A.units + 64 < cLine) : OpK X (compareOp .Eq) eqD := by
  refine opk_of (op_eqD hu) fun x y H Q ⟨h, dx, dy, R, sb, ax, ay, w, c⟩ => ?_
  exact ⟨_, _, ax.dp sb (SeqAt.canLay_of_shaped w.1), ay.dp sb (SeqAt.canLay_of_shaped w.2.1), w.1, w.2.1, c _ H (.plain sb .bl w.2.2)⟩
theorem ne_ok (hu : X.A.units + 64 < cLine) : OpK X (compareOp .NotEq) neD := by
  refine opk_of (op_neD hu) fun x y H Q ⟨h, dx, dy, R, sb, ax, ay, w, c⟩ => ?_
  exact ⟨_, _, ax.dp sb (SeqAt.canLay_of_shaped w.1), ay.dp sb (SeqAt.canLay_of_shaped w.2.1), w.1, w.2.1, c _ H (.plain sb .bl w.2.2)⟩
/-- in a tuple of data -/
theorem op_inDT (hu : X.A.units + 65 < cLine) : OpR X (compareOp .In) (fun x y H Q => ∃ d ds, Dp X.K H x d ∧ Dp X.K H y (.tuple ds) ∧ SeqAt.shaped d = true ∧ SeqAt.shaped (.tuple ds) = true ∧ Q (.bl (ds.any fun z => PyData.eqv z d)) H) := by
  intro pins s σ H x y v u Q I rx ry h
  obtain ⟨d, ds, hd, he, sd, se, q⟩ := h
  obtain ⟨as, r1⟩ := Dp.reads I d x v hd rx
  obtain ⟨bs, r2⟩ := Dp.reads I (.tuple ds) y u he ry
  exact SeqAt.in_tuple_reads r2 r1 (SeqAt.canLay_of_shaped se) (SeqAt.canLay_of_shaped sd) (PyProof.Rows.room_in_shaped sd hu) ⟨.bl _, H, I, rfl, q⟩
theorem op_notInDT (hu : X.A.units + 65 < cLine) : OpR X (compareOp .NotIn) (fun x y H Q => ∃ d ds, Dp X.K H x d ∧ Dp X.K H y (.tuple ds) ∧ SeqAt.shaped d = true ∧ SeqAt.shaped (.tuple ds) = true ∧ Q (.bl (!ds.any fun z => PyData.eqv z d)) H) := by
  intro pins s σ H x y v u Q I rx ry h
  obtain ⟨d, ds, hd, he, sd, se, q⟩ := h
  obtain ⟨as, r1⟩ := Dp.reads I d x v hd rx
  obtain ⟨bs, r2⟩ := Dp.reads I (.tuple ds) y u he ry
  exact SeqAt.notIn_tuple_reads r2 r1 (SeqAt.canLay_of_shaped se) (SeqAt.canLay_of_shaped sd) (PyProof.Rows.room_in_shaped sd hu) ⟨.bl _, H, I, rfl, q⟩
theorem op_inDict (hu : X.A.units + 1 < cLine) : OpR X (compareOp .In) (fun y x H Q => ∃ a o, x = .ref a ∧ DGet H a y o ∧ Q (.bl o.isSome) H) := by
  intro pins s σ H y x v u Q I ry rx ⟨a, o, e, g, q⟩
  subst e
  obtain rfl : u = Value.ref a := rx
  exact d_in hu I g ry fun s3 I3 => ⟨.bl o.isSome, H, I3, rfl, q⟩
theorem op_notInDict (hu : X.A.units + 1 < cLine) : OpR X (compareOp .NotIn) (fun y x H Q => ∃ a o, x = .ref a ∧ DGet H a y o ∧ Q (.bl (!o.isSome)) H) := by
  intro pins s σ H y x v u Q I ry rx ⟨a, o, e, g, q⟩
  subst e
  obtain rfl : u = Value.ref a := rx
  exact d_notIn hu I g ry fun s3 I3 => ⟨.bl (!o.isSome), H, I3, rfl, q⟩
theorem some_same {α : Type} {K : PySem.W.Frag} {h : Hp} {o : Option V} {e : Option D} (g1 : ∀ d, e = some d → ∃ v, o = some v ∧ At K h d v) (g2 : e = none → o = none) : o.isSome = e.isSome := by
  cases e with
  | none => rw [g2 rfl]; rfl
  | some d => obtain ⟨v, rfl, _⟩ := g1 d rfl; rfl
theorem in_ok (hu : X.A.units + 65 < cLine) : OpK X (compareOp .In) (inD false) := by
  refine opk_of ((op_inD hu).or ((op_inDT hu).or (op_inDict (by omega)))) fun x y H Q ⟨h, dx, dy, R, sb, ax, ay, w, c⟩ => ?_
  unfold inD at w
  split at w
  · refine .inl ⟨_, _, ax.dp sb (SeqAt.canLay_of_shaped w.1), ay.dp sb (SeqAt.canLay_of_shaped w.2.1), w.1, w.2.1, c _ H (.plain sb .bl ?_)⟩
    rw [pys_any]; simpa using w.2.2
  · refine .inr (.inl ⟨_, _, ax.dp sb (SeqAt.canLay_of_shaped w.1), ay.dp sb (SeqAt.canLay_of_shaped w.2.1), w.1, w.2.1, c _ H (.plain sb .bl ?_)⟩)
    rw [pys_any]; simpa using w.2.2
  · rename_i l
    split at w
    · rename_i k ek
      obtain ⟨a, o, rfl, g, g1, g2⟩ := (dict_get sb ay ax).1 l k rfl ek
      refine .inr (.inr ⟨a, o, rfl, g, c _ H (.plain sb .bl ?_)⟩)
      rw [some_same (α := Unit) g1 g2]; simpa using w
    · exact w.elim
  · rename_i l
    split at w
    · rename_i ds
      split at w
      · rename_i k ek
        obtain ⟨a, o, rfl, g, g1, g2⟩ := (dict_get sb ay ax).2 l ds k rfl rfl ek
        refine .inr (.inr ⟨a, o, rfl, g, c _ H (.plain sb .bl ?_)⟩)
        rw [some_same (α := Unit) g1 g2]; simpa using w
      · exact w.elim
    · exact w.elim
  · exact w.elim
theorem notin_ok (hu : X.A.units + 65 < cLine) : OpK X (compareOp .NotIn) (inD true) := by
  refine opk_of ((op_notInD hu).or ((op_notInDT hu).or (op_notInDict (by omega)))) fun x y H Q ⟨h, dx, dy, R, sb, ax, ay, w, c⟩ => ?_
  unfold inD at w
  split at w
  · refine .inl ⟨_, _, ax.dp sb (SeqAt.canLay_of_shaped w.1), ay.dp sb (SeqAt.canLay_of_shaped w.2.1), w.1, w.2.1, c _ H (.plain sb .bl ?_)⟩
    rw [pys_any]; simpa using w.2.2
  · refine .inr (.inl ⟨_, _, ax.dp sb (SeqAt.canLay_of_shaped w.1), ay.dp sb (SeqAt.canLay_of_shaped w.2.1), w.1, w.2.1, c _ H (.plain sb .bl ?_)⟩)
    rw [pys_any]; simpa using w.2.2
  · rename_i l
    split at w
    · rename_i k ek
      obtain ⟨a, o, rfl, g, g1, g2⟩ := (dict_get sb ay ax).1 l k rfl ek
      refine .inr (.inr ⟨a, o, rfl, g, c _ H (.plain sb .bl ?_)⟩)
      rw [some_same (α := Unit) g1 g2]; simpa using w
    · exact w.elim
  · rename_i l
    split at w
    · rename_i ds
      split at w
      · rename_i k ek
        obtain ⟨a, o, rfl, g, g1, g2⟩ := (dict_get sb ay ax).2 l ds k rfl rfl ek
        refine .inr (.inr ⟨a, o, rfl, g, c _ H (.plain sb .bl ?_)⟩)
        rw [some_same (α := Unit) g1 g2]; simpa using w
      · exact w.elim
    · exact w.elim
  · exact w.elim
end
end DL
namespace DL
open PySem PySem.Spec L2
theorem ca_of {X : Cx} {f : Value} {r : List V → Hp → VK → Prop} {k : DN} (o : CallR X f r) (h : ∀ xs H Q, rOfN X.K k xs H Q → r xs H Q) : CaK X f k := fun pins s σ H xs us Q I rs q => o pins s σ H xs us Q I rs (h _ _ _ q)
theorem CallR.or {X : Cx} {f : Value} {r r' : List V → Hp → VK → Prop} (h : CallR X f r) (h' : CallR X f r') : CallR X f (fun x H Q => r x H Q ∨ r' x H Q) := fun pins s σ H xs us Q I rs q => by
  rcases q with q | q
  · exact h pins s σ H xs us Q I rs q
  · exact h' pins s σ H xs us Q I rs q
theorem AtRs.one {K : PySem.W.Frag} {h H : Hp} {d : D} {vs : List V} (a : AtRs K h H [d] vs) : ∃ v, vs = [v] ∧ AtR K h H d v := by
  cases a with | cons a r => cases r; exact ⟨_, rfl, a⟩
theorem AtRs.two {K : PySem.W.Frag} {h H : Hp} {d e : D} {vs : List V} (a : AtRs K h H [d, e] vs) : ∃ v u, vs = [v, u] ∧ AtR K h H d v ∧ AtR K h H e u := by
  cases a with | cons a r => cases r with | cons b r => cases r; exact ⟨_, _, rfl, a, b⟩
def lenD : DN := fun ds R => match ds with
  | [.lst l] => R (.fz (.int l.length))
  | [.tup l] => R (.fz (.int l.length))
  | [.scr l] => R (.fz (.int l.length))
  | [.ctup l] => R (.fz (.int l.length))
  | [.str x] => x.length ≤ 10000000 ∧ R (.fz (.int x.length))
  | _ => False
def min2D : DN := fun ds R => match ds with | [.int i, .int j] => R (.fz (.int (if j < i then j else i))) | _ => False
def max2D : DN := fun ds R => match ds with | [.int i, .int j] => R (.fz (.int (if j > i then j else i))) | _ => False
def absD : DN := fun ds R => match ds with | [.int i] => R (.fz (.int (if i < 0 then -i else i))) | _ => False
def intD : DN := fun ds R => match ds with | [.int i] => R (.fz (.int i)) | [.bl b] => R (.fz (.int (if b then 1 else 0))) | _ => False
def listD : DN := fun ds R => match ds with | [.lst l] => R (.ls l) | [.tup l] => R (.ls l) | _ => False
def tupleD : DN := fun ds R => match ds with | [.lst l] => R (.fz (.tup l)) | [.tup l] => R (.fz (.tup l)) | _ => False
theorem ats_ints {K : PySem.W.Frag} {h : Hp} : ∀ {ns : List Int} {vs : List V}, Ats K h (ns.map .int) vs → vs = ns.map V.int
  | [], _, .nil => rfl
  | n :: r, _, .cons a ar => by cases a; rw [ats_ints ar]; rfl
/-- pairs of ints -/
abbrev pairD (p : Int × Int) : D := .tup [.int p.1, .int p.2]
def leP (a b : Int × Int) : Prop := a.1 < b.1 ∨ (a.1 = b.1 ∧ a.2 ≤ b.2)
def sortedD : DN := fun ds R => match ds with
  | [.lst l] => (∃ ns : List Int, l = ns.map .int ∧ ∀ ns' : List Int, ns'.Perm ns → ns'.Pairwise (· ≤ ·) → R (.ls (ns'.map .int))) ∨
      (∃ ps : List (Int × Int), l = ps.map pairD ∧ ∀ ps' : List (Int × Int), ps'.Perm ps → ps'.Pairwise leP → R (.ls (ps'.map pairD)))
  | [.dK l] => ∃ ks : List Int, l.map (·.1) = ks.map Sum.inl ∧ ks.length < 64 ∧ ∀ ns' : List Int, ns'.Perm ks → ns'.Pairwise (· ≤ ·) → R (.ls (ns'.map .int))
  | _ => False
section
variable {X : Cx}
theorem len_ok : CaK X (.builtin "len") lenD := by
  refine ca_of (CallR.or call_len_seq (call_len (X := X))) fun xs H Q ⟨h, ds, R, sb, a, w, c⟩ => ?_
  unfold lenD at w
  split at w
  · obtain ⟨v, rfl, a1⟩ := a.one
    obtain ⟨p, vs, rfl, r, al⟩ := a1.lst sb
    exact .inl ⟨p, vs, rfl, .inl (SqL.of r), by rw [← al.length]; exact c _ H (.plain sb .int w)⟩
  · obtain ⟨v, rfl, a1⟩ := a.one
    obtain ⟨p, vs, rfl, r, al⟩ := a1.tup sb
    exact .inl ⟨p, vs, rfl, .inr (SqT.of r), by rw [← al.length]; exact c _ H (.plain sb .int w)⟩
  · obtain ⟨v, rfl, a1⟩ := a.one
    cases a1 with
    | of a1 => cases a1 with | scr e => exact .inl ⟨_, _, rfl, .inl (sb.sql e), by rw [List.length_map]; exact c _ H (.plain sb .int w)⟩
  · obtain ⟨v, rfl, a1⟩ := a.one
    cases a1 with
    | of a1 => cases a1 with | ctup e r => exact .inl ⟨_, _, rfl, .inr (sb.sqt e), by rw [← r.length]; exact c _ H (.plain sb .int w)⟩
  · obtain ⟨v, rfl, a1⟩ := a.one
    rw [a1.str]
    exact .inr ⟨_, _, rfl, ⟨sz100 w.1, rfl⟩, c _ H (.plain sb .int w.2)⟩
  · exact w.elim
theorem min2_ok (hc : X.calm = true) : CaK X (.builtin "min") min2D := by
  refine ca_of (call_min2 hc) fun xs H Q ⟨h, ds, R, sb, a, w, c⟩ => ?_
  unfold min2D at w
  split at w
  · obtain ⟨v, u, rfl, a1, b1⟩ := a.two
    rw [a1.int, b1.int]
    exact ⟨_, _, rfl, c _ H (.plain sb .int w)⟩
  · exact w.elim
theorem max2_ok (hc : X.calm = true) : CaK X (.builtin "max") max2D := by
  refine ca_of (call_max2 hc) fun xs H Q ⟨h, ds, R, sb, a, w, c⟩ => ?_
  unfold max2D at w
  split at w
  · obtain ⟨v, u, rfl, a1, b1⟩ := a.two
    rw [a1.int, b1.int]
    exact ⟨_, _, rfl, c _ H (.plain sb .int w)⟩
  · exact w.elim
theorem abs_ok : CaK X (.builtin "abs") absD := by
  refine ca_of call_abs fun xs H Q ⟨h, ds, R, sb, a, w, c⟩ => ?_
  unfold absD at w
  split at w
  · obtain ⟨v, rfl, a1⟩ := a.one
    rw [a1.int]
    exact ⟨_, rfl, c _ H (.plain sb .int w)⟩
  · exact w.elim
theorem int_ok : CaK X (.type "int") intD := by
  refine ca_of call_int1 fun xs H Q ⟨h, ds, R, sb, a, w, c⟩ => ?_
  unfold intD at w
  split at w
  · obtain ⟨v, rfl, a1⟩ := a.one
    rw [a1.int]
    exact .inl ⟨_, rfl, c _ H (.plain sb .int w)⟩
  · obtain ⟨v, rfl, a1⟩ := a.one
    rw [a1.bl]
    exact .inr ⟨_, rfl, c _ H (.plain sb .int w)⟩
  · exact w.elim
theorem tuple_ok : CaK X (.type "tuple") tupleD := by
  refine ca_of call_tuple_of fun xs H Q ⟨h, ds, R, sb, a, w, c⟩ => ?_
  unfold tupleD at w
  split at w
  · obtain ⟨v, rfl, a1⟩ := a.one
    obtain ⟨p, vs, rfl, r, al⟩ := a1.lst sb
    exact ⟨p, vs, rfl, .inl ⟨SqL.of r, fun l nl => c _ _ (.tup sb nl al w)⟩⟩
  · obtain ⟨v, rfl, a1⟩ := a.one
    cases a1 with
    | of a1 => cases a1 with | tup e r => exact ⟨_, _, rfl, .inr ⟨SqT.of (sb.tup e), c _ H (.plain sb (.tup e r) w)⟩⟩
  · exact w.elim
theorem ats_pairs {K : PySem.W.Frag} {h : Hp} : ∀ {ps : List (Int × Int)} {vs : List V}, Ats K h (ps.map pairD) vs → ∃ ts : List (Addr × Int × Int), vs = ts.map (fun t => V.ref t.1) ∧ ps = ts.map (·.2) ∧ ∀ t ∈ ts, h t.1 = some (.tup [.int t.2.1, .int t.2.2])
  | [], _, .nil => ⟨[], rfl, rfl, fun _ m => nomatch m⟩
  | p :: r, _, .cons a ar => by
    obtain ⟨ts, e1, e2, e3⟩ := ats_pairs ar
    cases a with
    | @tup a _ vs e r =>
      cases r with | cons x1 r => cases r with | cons x2 r => cases r; cases x1; cases x2; exact ⟨(a, p) :: ts, by rw [e1]; rfl, by rw [e2]; rfl, fun t m => by
        rcases List.mem_cons.mp m with rfl | m
        · exact e
        · exact e3 t m⟩
theorem pairs_ats {K : PySem.W.Frag} {h : Hp} : ∀ {ts : List (Addr × Int × Int)}, (∀ t ∈ ts, h t.1 = some (.tup [.int t.2.1, .int t.2.2])) → Ats K h ((ts.map (·.2)).map pairD) (ts.map fun t => V.ref t.1)
  | [], _ => .nil
  | t :: r, e => .cons (.tup (e t (by simp)) (.cons .int (.cons .int .nil))) (pairs_ats fun t m => e t (by simp [m]))
theorem key_of (ts : List (Addr × Int × Int)) (hs : ∀ t ∈ ts, ∀ u ∈ ts, t.1 = u.1 → t.2 = u.2) : ∃ k : V → Int × Int, ∀ t ∈ ts, k (V.ref t.1) = t.2 := by
  refine ⟨fun v => match v with | .ref a => ((ts.find? fun t => t.1 == a).map (·.2)).getD (0, 0) | _ => (0, 0), fun t m => ?_⟩
  show ((ts.find? fun u => u.1 == t.1).map (·.2)).getD (0, 0) = t.2
  cases q : ts.find? fun u => u.1 == t.1 with
  | none => exact absurd (List.find?_eq_none.mp q t m) (by simp)
  | some u =>
    have h1 := List.find?_some q
    have h2 := List.mem_of_find?_eq_some q
    exact hs u h2 t m (by simpa using h1)
theorem perm_map_inv {α β : Type} {f : α → β} : ∀ {l : List β} {m : List α}, l.Perm (m.map f) → ∃ m' : List α, m'.Perm m ∧ l = m'.map f := fun {l m} p => by
  generalize e : m.map f = b at p
  induction p generalizing m with
  | nil => exact ⟨[], by simpa using e, rfl⟩
  | @cons x l1 l2 p ih =>
    cases m with
    | nil => cases e
    | cons y m =>
      cases e
      obtain ⟨m', p', rfl⟩ := ih rfl
      exact ⟨y :: m', p'.cons y, rfl⟩
  | swap x y l =>
    cases m with
    | nil => cases e
    | cons a m =>
      cases m with
      | nil => cases e
      | cons b m => cases e; exact ⟨b :: a :: m, .swap a b m, rfl⟩
  | trans p1 p2 ih1 ih2 =>
    obtain ⟨m2, q2, rfl⟩ := ih2 e
    obtain ⟨m1, q1, rfl⟩ := ih1 rfl
    exact ⟨m1, q1.trans q2, rfl⟩
theorem sorted_ok (hc : X.calm = true) : CaK X (.builtin "sorted") sortedD := by
  refine ca_of (CallR.or cr_sortedI (CallR.or cr_sortedPO (call_sortedDI hc))) fun xs H Q ⟨h, ds, R, sb, a, w, c⟩ => ?_
  unfold sortedD at w
  split at w
  · obtain ⟨v, rfl, a1⟩ := a.one
    obtain ⟨p, vs, rfl, r, al⟩ := a1.lst sb
    rcases w with ⟨ns, rfl, w⟩ | ⟨ps, rfl, w⟩
    · exact .inl ⟨p, ns, rfl, by rw [← ats_ints al]; exact SqL.of r, fun ns' q p1 p2 np => c _ _ (.list sb np ints_ats (w ns' p1 p2))⟩
    · obtain ⟨ts, rfl, rfl, et⟩ := ats_pairs al
      have eH : ∀ t ∈ ts, H t.1 = some (.tup [.int t.2.1, .int t.2.2]) := fun t m => sb.tup (et t m)
      obtain ⟨k, hk⟩ := key_of ts fun t m u m2 e => by
        have e1 := et t m
        have e2 := et u m2
        rw [e, e2] at e1
        simp only [Option.some.injEq, HO.tup.injEq, List.cons.injEq, V.int.injEq, and_true] at e1
        exact Prod.ext e1.1.symm e1.2.symm
      refine .inr (.inl ⟨p, _, k, rfl, SqL.of r, fun x m => ?_, fun ys q srt stb nq => ?_⟩)
      · obtain ⟨t, mt, rfl⟩ := List.mem_map.mp m
        exact ⟨t.1, rfl, by rw [hk t mt]; exact eH t mt⟩
      · obtain ⟨ts', pt, rfl⟩ := perm_map_inv stb.perm
        have et' : ∀ t ∈ ts', h t.1 = some (.tup [.int t.2.1, .int t.2.2]) := fun t m => et t (pt.mem_iff.mp m)
        refine c _ _ (.list sb nq (pairs_ats et') (w _ (pt.map _) ?_))
        have srt2 := List.pairwise_map.mp srt
        refine List.pairwise_map.mpr (srt2.imp_of_mem fun {t u} m1 m2 hh => ?_)
        have hh2 : SrtO.lexB (k (V.ref u.1)) (k (V.ref t.1)) = false := hh
        rw [hk t (pt.mem_iff.mp m1), hk u (pt.mem_iff.mp m2)] at hh2
        have := SrtO.lexB_no.mp hh2
        unfold leP
        omega
  · obtain ⟨v, rfl, a1⟩ := a.one
    obtain ⟨ks, ek, h64, w⟩ := w
    obtain ⟨p, vs, rfl, r, al⟩ := a1.dK sb
    have keys : ∀ {l : List (Key × D)} {m : List (Key × V)}, AtK X.K h l m → m.map (·.1) = l.map (·.1) := fun {l m} q => by
      induction l generalizing m with
      | nil => cases q; rfl
      | cons x l ih => cases q with | cons _ q => simp [ih q]
    exact .inr (.inr ⟨p, vs, ks, rfl, r, by rw [keys al]; exact ek, h64, fun ns' q p1 p2 np => c _ _ (.list sb np ints_ats (w ns' p1 p2))⟩)
  · exact w.elim
end
end DL
namespace DL
open PySem PySem.Spec L2
section
variable {X : Cx}
theorem mul_ok : OpK X (binaryOp .Mult) mulD := by
  have rep : OpR X (binaryOp .Mult) (fun x y H Q => ∃ l k xs, x = .ref l ∧ y = .int k ∧ (H l = some (.lst xs) ∧ -(2 ^ 63) ≤ k ∧ k < 2 ^ 63 ∧ xs.length * k.toNat ≤ sizeLine) ∧ ∀ p, H p = none → Q (.ref p) (upd H p (.lst (List.replicate k.toNat xs).flatten))) := by
    intro pins s σ H x y v u Q I rx ry ⟨l, k, xs, e1, e2, ⟨h1, h2, h3, h4⟩, q⟩
    exact op_rep pins s σ H x y v u Q I rx ry ⟨l, k, xs, e1, e2, h1, h2, h3, h4, q⟩
  refine opk_of (op_mul.or (op_mulW.or (rep.or op_repT))) fun x y H Q ⟨h, dx, dy, R, sb, ax, ay, w, c⟩ => ?_
  unfold mulD at w
  split at w
  · obtain ⟨ok, w⟩ := w
    rcases ok with ok | ok
    · exact .inl ⟨_, _, ax.int, ay.int, ok, c _ H (.plain sb .int w)⟩
    · exact .inr (.inl ⟨_, _, ax.int, ay.int, wide_mul ok.1 ok.2 (by decide) (by decide) (by decide), c _ H (.plain sb .int w)⟩)
  · rename_i l k
    obtain ⟨h1, h2, h3, w⟩ := w
    obtain ⟨p, vs, rfl, r, al⟩ := ax.lst sb
    exact .inr (.inr (.inl ⟨p, k, vs, rfl, ay.int, ⟨r, h1, h2, by rw [← al.length]; exact sz100 h3⟩, fun q nq => c _ _ (.list sb nq (al.repl _) w)⟩))
  · rename_i l k
    obtain ⟨hne, h1, h2, h3, w⟩ := w
    obtain ⟨p, vs, rfl, r, al⟩ := ax.tup sb
    refine .inr (.inr (.inr ⟨p, k, vs, rfl, ay.int, SqT.of r, fun e => hne (al.nil_iff.mpr e), h1, h2, by rw [← al.length]; exact h3, fun p np => c _ _ (.tup sb np (al.repl _) w)⟩))
  · exact w.elim
theorem div_ok : OpK X (binaryOp .FloorDiv) divD := by
  refine opk_of op_fdivW fun x y H Q ⟨h, dx, dy, R, sb, ax, ay, w, c⟩ => ?_
  unfold divD at w
  split at w
  · rename_i i j
    obtain ⟨⟨h1, h2⟩, w⟩ := w
    refine ⟨_, _, ax.int, ay.int, wide_div h1 (b := 5000) ?_ (by decide) (by decide), c _ H (.plain sb .int w)⟩
    have : ((j.natAbs : Nat) : Int) < ((2 ^ 5000 : Nat) : Int) := by
      rw [Int.natAbs_of_nonneg (by omega)]
      rw [Int.natCast_pow]
      exact h2
    exact Int.ofNat_lt.mp this
  · exact w.elim
def D.tyn : D → String
  | .non => "NoneType"
  | .bl _ => "bool"
  | .int _ => "int"
  | .str _ => "str"
  | .tup _ => "tuple"
  | .ctup _ => "tuple"
  | .lst _ => "list"
  | .dK _ => "dict"
  | _ => ""
/-- whether a value of the first kind is one of the second -/
def isiB : String → String → Option Bool
  | "bool", "int" => some true
  | a, b => if a ∈ ["NoneType", "bool", "int", "str", "tuple", "list", "dict"] ∧ b ∈ ["bool", "int", "str", "tuple", "list"] then some (decide (a = b)) else none
theorem isiB_ok : ∀ a ∈ ["NoneType", "bool", "int", "str", "tuple", "list", "dict"], ∀ b ∈ ["bool", "int", "str", "tuple", "list"], kitB a b = isiB a b := by decide +kernel
theorem isiB_some {a b : String} {r : Bool} (e : isiB a b = some r) : kitB a b = some r := by
  by_cases h : a ∈ ["NoneType", "bool", "int", "str", "tuple", "list", "dict"] ∧ b ∈ ["bool", "int", "str", "tuple", "list"]
  · rw [isiB_ok a h.1 b h.2]; exact e
  · unfold isiB at e
    split at e
    · exact (h (by decide)).elim
    · rw [if_neg h] at e; cases e
def isinstD : DN := fun ds R => match ds with
  | [x, .opq (.ty n)] => (match isiB x.tyn n with | some b => R (.fz (.bl b)) | none => False)
  | _ => False
theorem AtR.ty {K : PySem.W.Frag} {h H : Hp} (sb : Sub h H) {d : D} {v : V} (a : AtR K h H d v) {b : String} (hb : d.tyn = b) (hne : b ≠ "") : TyX K H v (.type b) := by
  subst hb
  cases a with
  | of a =>
    cases a with
    | non => exact .base .non
    | bl => exact .base (.bl _)
    | int => exact .base (.int _)
    | str => exact .base (.str _)
    | tup e r => exact .base (.tup (sb.tup e))
    | lst e r =>
      exact .base (.lst (sb.lst e))
    | scr e => exact (hne rfl).elim
    | exn e f => exact (hne rfl).elim
    | ctup e r =>
      rcases sb.sqt e with q | ⟨o, its, n, q1, q2, _⟩
      · rcases q with q | ⟨o, q⟩
        · exact .base (.tup q)
        · exact .fTuple q
      · exact .kTuple q1 q2
    | dK e r =>
      rcases sb.rd e with q | ⟨o, q⟩
      · exact .base (.dK q)
      · exact .fDict q
    | opq => exact (hne rfl).elim
    | dT e r => exact (hne rfl).elim
  | ls e r => exact .base (.lst e)
  | dk e r =>
    rcases e with q | ⟨o, q⟩
    · exact .base (.dK q)
    · exact .fDict q
  | dt e r => exact (hne rfl).elim
theorem isinst_ok : CaK X (.builtin "isinstance") isinstD := by
  refine ca_of call_isi fun xs H Q ⟨h, ds, R, sb, a, w, c⟩ => ?_
  unfold isinstD at w
  split at w
  · rename_i x n
    obtain ⟨v, u, rfl, a1, b1⟩ := a.two
    split at w
    · rename_i b eb
      have eu : u = .ty n := by cases b1 with | of b1 => cases b1; rfl
      subst eu
      refine ⟨v, .ty n, .type x.tyn, .type n, b, rfl, .ty n, a1.ty sb rfl (fun z => ?_), kit_ty (isiB_some eb), c _ H (.plain sb .bl w)⟩
      rw [z] at eb
      unfold isiB at eb
      split at eb
      · rename_i hz _; exact absurd hz (by decide)
      · rw [if_neg (fun z => absurd z.1 (by decide))] at eb; cases eb
    · exact w.elim
  · exact w.elim
def cutL {α : Type} (xs : List α) (lo hi : Option Int) : List α := (xs.drop (HT.sIx xs.length 0 lo)).take (HT.sIx xs.length xs.length hi - HT.sIx xs.length 0 lo)
theorem Ats.drop {K : PySem.W.Frag} {h : Hp} : ∀ {l : List D} {l' : List V} (n : Nat), Ats K h l l' → Ats K h (l.drop n) (l'.drop n)
  | _, _, 0, a => a
  | _, _, n + 1, .nil => .nil
  | _, _, n + 1, .cons _ r => r.drop n
theorem Ats.take {K : PySem.W.Frag} {h : Hp} : ∀ {l : List D} {l' : List V} (n : Nat), Ats K h l l' → Ats K h (l.take n) (l'.take n)
  | _, _, 0, a => .nil
  | _, _, n + 1, .nil => .nil
  | _, _, n + 1, .cons a r => .cons a (r.take n)
theorem Ats.cut {K : PySem.W.Frag} {h : Hp} {l : List D} {l' : List V} (a : Ats K h l l') (lo hi : Option Int) : Ats K h (cutL l lo hi) (cutV l' lo hi) := by
  unfold cutL cutV
  rw [a.length]
  exact (a.drop _).take _
def sliceD (lo hi : Option Int) : D1 := fun x R => match x with
  | .lst l => R (.ls (cutL l lo hi))
  | .tup l => R (.fz (.tup (cutL l lo hi)))
  | _ => False
abbrev DTO := En → (En → Option Int → Prop) → Prop
def sO (K : PySem.W.Frag) (t : DTO) : TO := fun σ H Q' => ∃ h G fp Q, Stt K h H G σ fp ∧ t G Q ∧ ∀ o H', (∃ h' fp', Stt K h' H' G σ fp' ∧ Ext h H fp h' H' fp' ∧ (fp' = fp ∧ ∀ a ∈ fp, H' a = H a) ∧ Q G o) → Q' o H'
def DO (X : Cx) (e : Option Expr) (t : DTO) : Prop := PO X e (sO X.K t)
def oNone : DTO := fun G Q => Q G none
def oSome (te : DTE) : DTO := fun G Q => te G fun G1 v => rdW G1 v fun d => match d with | .int i => Q G1 (some i) | _ => False
theorem po_imp {e : Option Expr} {t t' : TO} (h : PO X e t) (k : ∀ σ H Q, t' σ H Q → t σ H Q) : PO X e t' := ⟨fun pins s σ H Q I q => h.run pins s σ H Q I (k σ H Q q)⟩
theorem do_none : DO X none oNone := po_imp po_none fun σ H Q ⟨h, G, fp, Q', S, w, c⟩ => c none H ⟨h, fp, S, Ext.refl h H fp, ⟨rfl, fun _ _ => rfl⟩, w⟩
theorem do_some {e : Expr} {te : DTE} (he : DE X true e te) : DO X (some e) (oSome te) := po_imp (po_some he) fun σ H Q ⟨h, G, fp, Q', S, w, c⟩ => by
  refine ⟨h, G, fp, _, S, w, fun v H1 ⟨h1, G1, f1, va, fva, r1, w1⟩ => ?_⟩
  obtain ⟨x, ax, w2⟩ := r1.ov.rd r1.st w1
  obtain ⟨rfl, p2, p3⟩ := r1.pu rfl
  split at w2
  · rename_i i
    exact ⟨i, ax.int, c _ H1 ⟨h1, f1, r1.st, r1.drop, ⟨p2, p3⟩, w2⟩⟩
  · exact w2.elim
/-- e[lo:hi], the bounds plain -/
def dSlice (te : DTE) (tl th : DTO) : DTE := fun G Q => te G fun G1 v => match v with
  | .pk i p => tl G1 fun G2 lo => th G2 fun G3 hi => rdW G3 (.pk i p) fun x => sliceD lo hi x fun t => Q G3 (.t t)
  | .t t => rdT t fun x => tl G1 fun G2 lo => th G2 fun G3 hi => sliceD lo hi x fun t => Q G3 (.t t)
def rSl (K : PySem.W.Frag) : V → Option Int → Option Int → Hp → VK → Prop := fun x lo hi H Q' => ∃ h dx R, Sub h H ∧ AtR K h H dx x ∧ sliceD lo hi dx R ∧ ∀ v H', OpPost K h H R v H' → Q' v H'
theorem cutL_all {α : Type} {l : List α} {lo hi : Option Int} (h : HT.sIx l.length 0 lo = 0 ∧ HT.sIx l.length l.length hi = l.length) : cutL l lo hi = l := by
  unfold cutL; rw [h.1, h.2]; simp
theorem sl_ok : SlR X (rSl X.K) := by
  have base := (sl_list (X := X)).or (sl_tupA (X := X))
  intro pins s σ H x v vl vu lo hi sl Q I rx hs pl pu ⟨h, dx, R, sb, ax, w, c⟩
  refine base pins s σ H x v vl vu lo hi sl Q I rx hs pl pu ?_
  unfold sliceD at w
  split at w
  · obtain ⟨p, vs, rfl, r, al⟩ := ax.lst sb
    exact .inl ⟨p, vs, rfl, SqL.of r, fun p np => c _ _ (.list sb np (al.cut lo hi) w)⟩
  · rename_i l
    cases ax with
    | of ax =>
      cases ax with
      | @tup a _ vs e al =>
        refine .inr ⟨a, vs, rfl, SqT.of (sb.tup e), fun hw => c _ H (.plain sb (.tup e al) ?_), fun _ p np => c _ _ (.tup sb np (al.cut lo hi) w)⟩
        rw [← al.length] at hw
        rw [cutL_all hw] at w
        exact w
  · exact w.elim
/-- what was readable stays so where no node changes -/
theorem AtR.keep {K : PySem.W.Frag} {h H h' H' : Hp} {d : D} {v : V} (a : AtR K h H d v) (s : Same h h') (g : Sub H H') : AtR K h' H' d v := by
  cases a with
  | of a => exact .of (a.mono s)
  | ls e r => exact .ls (g.lst e) (r.mono s)
  | dk e r => exact .dk (g.rd e) (r.mono s)
  | dt e r => exact .dt (g.rd e) (r.mono s)
theorem de_slice {pa : Bool} {e : Expr} {lo hi : Option Expr} {te : DTE} {tl th : DTO} {p2 pos : Pos} (he : DE X pa e te) (hl : DO X lo tl) (hh : DO X hi th) : DE X pa (.Subscript e (.Slice lo hi none p2) pos) (dSlice te tl th) := by
  refine pe_imp (pe_slice sl_ok he hl hh) fun σ H Q ⟨h, G, fp, Q', S, w, c⟩ => ?_
  refine ⟨h, G, fp, _, S, w, fun v H1 ⟨h1, G1, f1, va, fva, r1, w1⟩ => ?_⟩
  cases va with
  | pk i p =>
    refine ⟨h1, G1, f1, _, r1.st, w1, fun lo' H2 ⟨h2, f2, S2, e2, ⟨p2, k2⟩, w2⟩ => ?_⟩
    subst p2
    refine ⟨h2, G1, f2, _, S2, w2, fun hi' H3 ⟨h3, f3, S3, e3, ⟨p3, k3⟩, w3⟩ => ?_⟩
    subst p3
    cases r1.ov with
    | pk l e =>
      have l3 := (l.keep r1.st e k2).keep S2 e k3
      obtain ⟨x, ax, w4⟩ := OwnV.rd S3 (.pk l3 e) w3
      refine ⟨h3, x, _, S3.sub, ax, w4, fun v' H' o => c v' H' (o.res S3 ((r1.drop.trans e2).trans e3) (fun z => ?_) fun t q => q)⟩
      obtain ⟨q1, q2, q3⟩ := r1.pu z
      exact ⟨q1, q2, fun a m => (k3 a (q2 ▸ m)).trans ((k2 a (q2 ▸ m)).trans (q3 a m))⟩
  | t t =>
    obtain ⟨x, e, w1⟩ := rdT_of w1
    cases r1.ov with
    | t o =>
      have ax := o.rd e
      refine ⟨h1, G1, f1, _, r1.st, w1, fun lo' H2 ⟨h2, f2, S2, e2, ⟨p2, k2⟩, w2⟩ => ?_⟩
      subst p2
      refine ⟨h2, G1, f2, _, S2, w2, fun hi' H3 ⟨h3, f3, S3, e3, ⟨p3, k3⟩, w3⟩ => ?_⟩
      subst p3
      have g2 : Sub H1 H2 := e2.sub k2
      have g3 : Sub H2 H3 := e3.sub k3
      refine ⟨h3, x, _, S3.sub, (ax.keep e2.gh g2).keep e3.gh g3, w3, fun v' H' o => c v' H' (o.res S3 ((r1.drop.trans e2).trans e3) (fun z => ?_) fun t q => q)⟩
      obtain ⟨q1, q2, q3⟩ := r1.pu z
      exact ⟨q1, q2, fun a m => (k3 a (q2 ▸ m)).trans ((k2 a (q2 ▸ m)).trans (q3 a m))⟩
end
end DL
namespace DL
open PySem PySem.Spec L2
/-- a node changed: what stands behind it -/
structure NRes (K : PySem.W.Frag) (h H : Hp) (fc : List Addr) (h' H' : Hp) (t' : T) (v : V) (fc' : List Addr) (tr : T) (vr : V) (fr : List Addr) : Prop where
  own : Own K h' H' t' v fc'
  res : Own K h' H' tr vr fr
  nd : (fc' ++ fr).Nodup
  ex : Ext h H fc h' H' (fc' ++ fr)
  sub : Sub h' H'
theorem loc_change {K : PySem.W.Frag} {h H : Hp} {G : En} {σ : L2.St} {fp : List Addr} {i : Nat} {p : Option Stp} {t : T} {v : V} (S : Stt K h H G σ fp) (e : atE G i p = some t) (l : LocV H σ i p v) :
    ∃ fc, Own K h H t v fc ∧ fc.Nodup ∧ ∀ {h' H' : Hp} {t' tr : T} {fc' fr : List Addr} {vr : V}, NRes K h H fc h' H' t' v fc' tr vr fr →
      ∃ fp', Stt K h' H' (setE G i p t') σ fp' ∧ Own K h' H' tr vr fr ∧ (fp' ++ fr).Nodup ∧ Ext h H fp h' H' (fp' ++ fr) := by
  obtain ⟨f1, fc, f2, ef, oc, put⟩ := S.env.loc e l
  subst ef
  have nd0 : (f1 ++ f2 ++ fc).Nodup := (perm_mid f1 fc f2).nodup_iff.mp S.nd
  obtain ⟨nd12, ndc, dj⟩ := List.nodup_append.mp nd0
  refine ⟨fc, oc, ndc, fun {h' H' t' tr fc' fr vr} n => ?_⟩
  have out : ∀ a ∈ f1 ++ f2, a ∉ fc := fun a m m2 => dj a m a m2 rfl
  have thr : ∀ a ∈ f1 ++ f2, h a = none ∧ ∃ o, H a = some o := fun a m => S.env.there a (by simp at m ⊢; rcases m with m | m <;> simp [m])
  have hk : ∀ a ∈ f1 ++ f2, H' a = H a ∧ h' a = none := fun a m => by
    obtain ⟨n0, u, eu⟩ := thr a m
    have hn0 : h' a = none := by
     cases q : h' a with
     | none => rfl
     | some z =>
      rcases n.ex.hn a z q with r | r | r
      · rw [n0] at r; cases r
      · exact (out a m r).elim
      · exact (r.no eu (S.env.nobad a (by simp at m ⊢; rcases m with m | m <;> simp [m]))).elim
    exact ⟨by rw [eu]; exact n.ex.stay hn0 (out a m) eu, hn0⟩
  have o2 := put h' H' t' fc' n.ex.gh hk n.own
  have fresh : ∀ a ∈ f1 ++ f2, a ∉ fc' ++ fr := fun a m m2 => by
    rcases n.ex.nw a m2 with r | r
    · exact out a m r
    · obtain ⟨_, u, eu⟩ := thr a m; rw [eu] at r; cases r
  have big : ((f1 ++ f2) ++ (fc' ++ fr)).Nodup := List.nodup_append.mpr ⟨nd12, n.nd, fun x hx y hy z => fresh x hx (z ▸ hy)⟩
  have pm : (f1 ++ fc' ++ f2 ++ fr).Perm ((f1 ++ f2) ++ (fc' ++ fr)) := by
    refine (List.Perm.append_right fr (perm_mid f1 fc' f2)).trans ?_
    rw [List.append_assoc]
  refine ⟨f1 ++ fc' ++ f2, ⟨n.sub, o2, (List.nodup_append.mp (pm.nodup_iff.mpr big)).1⟩, n.res, pm.nodup_iff.mpr big, ⟨n.ex.gh, fun a o m ea => n.ex.fr a o (fun z => m (by simp [z])) ea, fun a m => ?_, fun a o ea => ?_⟩⟩
  · rcases List.mem_append.mp (pm.mem_iff.mp m) with q | q
    · left; simp at q ⊢; rcases q with q | q <;> simp [q]
    · rcases n.ex.nw a q with r | r
      · left; simp [r]
      · exact .inr r
  · rcases n.ex.hn a o ea with r | r | r
    · exact .inl r
    · right; left; simp [r]
    · exact .inr (.inr r)
abbrev NT := T → List D → (T → T → Prop) → Prop
def rOfM (K : PySem.W.Frag) (k : NT) : V → List V → Hp → VK → Prop := fun x xs H Q' => ∃ h t fc ds R, Sub h H ∧ Own K h H t x fc ∧ fc.Nodup ∧ Ats K h ds xs ∧ k t ds R ∧
  ∀ v H', (∃ h' t' fc' tr fr, NRes K h H fc h' H' t' x fc' tr v fr ∧ R t' tr) → Q' v H'
def MdK (X : Cx) (id : String) (k : NT) : Prop := MtM X id (rOfM X.K k)
def T.ty : T → String
  | .ls _ => "list"
  | .ll _ => "list"
  | .dk _ => "dict"
  | .dt _ => "dict"
  | .dm _ => "dict"
  | _ => ""
def dMeth (ty : String) (k : NT) (pa : Bool) (to : DTE) (ta : DTA) : DTE := fun G Q => to G fun G1 v => match v with
  | .pk i p => (∃ t, atE G1 i p = some t ∧ t.ty = ty) ∧ ta G1 fun G2 as => (p = none ∨ pa = true) ∧ withD as fun ds => (match atE G2 i p with | some t => k t ds fun t' r => Q (setE G2 i p t') (.t r) | none => False)
  | .t _ => False
theorem Own.tyv {K : PySem.W.Frag} {h H : Hp} {t : T} {v : V} {fp : List Addr} {ty : String} (o : Own K h H t v fp) (e : t.ty = ty) (hne : ty ≠ "") : tyV K ty v H := by
  subst e
  cases o with
  | fz _ => exact (hne rfl).elim
  | ls a b c => exact .inl ⟨rfl, _, SqL.of b⟩
  | dk a b c => exact .inr (.inr (.inl ⟨rfl, .inl ⟨_, b⟩⟩))
  | dt a b c => exact .inr (.inr (.inl ⟨rfl, .inr ⟨_, b⟩⟩))
  | ll a b c => exact .inl ⟨rfl, _, SqL.of b⟩
  | dm a b c => exact .inr (.inr (.inl ⟨rfl, .inl ⟨_, b⟩⟩))
  | ins _ _ _ _ _ => exact (hne rfl).elim
  | tu _ _ => exact (hne rfl).elim
section
variable {X : Cx} {pa po : Bool} {o e : Expr} {es : List Expr} {to : DTE} {ta : DTA} {name : Str} {apos cpos : Pos} {T₀ id : String} {k : NT}
theorem meth_imp {K : PySem.W.Frag} {σ : L2.St} {H : Hp} {Q : VK} {ty : String} (hne : ty ≠ "") (w : sE K false (dMeth ty k pa to ta) σ H Q) : tBM K ty (rOfM K k) (sE K po to) (sA K pa ta) σ H Q := by
  obtain ⟨h, G, fp, Q', S, w, c⟩ := w
  refine ⟨h, G, fp, _, S, w, fun v H1 ⟨h1, G1, f1, va, fva, r1, w1⟩ => ?_⟩
  cases va with
  | t t => exact w1.elim
  | pk i p =>
    obtain ⟨⟨t0, e0, ty0⟩, w1⟩ := w1
    cases r1.ov with
    | pk l e =>
      obtain ⟨g1, gc, g2, _, oc, _⟩ := r1.st.env.loc e0 l
      refine ⟨oc.tyv ty0 hne, h1, G1, f1, _, r1.st, w1, fun vs H2 ⟨h2, G2, f2, as, S2, av, e2, p2, hp, w2⟩ => ?_⟩
      have l2 : LocV H2 σ i p v := by
        rcases hp with rfl | hp
        · exact l
        · obtain ⟨_, q2, q3⟩ := p2 hp
          exact l.keep r1.st e q3
      obtain ⟨ds, ed, w3⟩ := withD_of w2
      split at w3
      · rename_i t et
        obtain ⟨fc, oc2, ndc, chg⟩ := loc_change S2 et l2
        refine ⟨h2, t, fc, ds, _, S2.sub, oc2, ndc, avD_at av ed, w3, fun u H' ⟨h', t', fc', tr, fr, n, q⟩ => ?_⟩
        obtain ⟨fp', S3, ot, nd3, e3⟩ := chg n
        exact c u H' ⟨h', _, fp', .t tr, fr, ⟨S3, .t ot, nd3, (r1.drop.trans e2).trans e3, fun z => by cases z⟩, q⟩
      · exact w3.elim
theorem de_meth {ty : String} (hne : ty ≠ "") (pa : PlainAttrs ty) (slot : Slot ty name id) (hty : typeOf (.builtin id) = pure (.type "method_descriptor")) (hm : MdK X id k) (ho : DE X po o to) {pq : Bool} (ha : DA X pq (e :: es) ta)
    (hbase : attributeBase o name X.env (eval o X.env) = eval o X.env := by rfl)
    (hfew : ((backTo cpos (starEach (e :: es) X.env)).all (fun x => !x.1) && (backToKw cpos (keywordEach [] X.env)).all (fun x => x.1.isSome)
      && decide ((e :: es).length + ([] : List Keyword).length + (if ([] : List Keyword).isEmpty then 0 else 1) < 30)) = true := by rfl)
    (hline : (apos.endLine == cpos.line) = true := by rfl) (hs : starEach (e :: es) X.env = (false, eval e X.env) :: starEach es X.env := by rfl) (hplain : (backTo cpos (starEach es X.env)).any (·.1) = false := by rfl) :
    DE X false (.Call (.Attribute o name apos) (e :: es) [] cpos) (dMeth ty k pq to ta) :=
  pe_imp (pe_bm pa slot hty hm ho ha hbase hfew hline hs hplain) fun _ _ _ w => meth_imp hne w
def dMeth0 (ty : String) (k : NT) (to : DTE) : DTE := fun G Q => to G fun G1 v => match v with
  | .pk i p => (match atE G1 i p with | some t => t.ty = ty ∧ k t [] fun t' r => Q (setE G1 i p t') (.t r) | none => False)
  | .t _ => False
def appendN : NT := fun t ds R => match t, ds with | .ls l, [x] => l.length < 10000000 ∧ R (.ls (l ++ [x])) (.fz .non) | _, _ => False
def extendN : NT := fun t ds R => match t, ds with | .ls l, [.lst xs] => l.length + xs.length ≤ 10000000 ∧ R (.ls (l ++ xs)) (.fz .non) | _, _ => False
def popN : NT := fun t ds R => match t, ds with | .ls l, [] => ∃ x, l.getLast? = some x ∧ R (.ls l.dropLast) (.fz x) | _, _ => False
def popAtN : NT := fun t ds R => match t, ds with | .ls l, [.int i] => ∃ (k : Nat) (x : D), i = k ∧ l[k]? = some x ∧ k < 2 ^ 62 ∧ R (.ls (l.eraseIdx k)) (.fz x) | _, _ => False
def reverseN : NT := fun t ds R => match t, ds with | .ls l, [] => R (.ls l.reverse) (.fz .non) | _, _ => False
/-- the list at a is written -/
theorem ls_write {K : PySem.W.Frag} {h H : Hp} {a : Addr} {l l' : List D} {vs vs' : List V} {d : D} {v : V} (sb : Sub h H) (n : h a = none) (b : H a = some (.lst vs)) (r : Ats K h l' vs') (rd : At K h d v) :
    NRes K h H [a] h (upd H a (.lst vs')) (.ls l') (.ref a) [a] (.fz d) v [] := by
  refine ⟨.ls n upd_same r, .fz rd, by simp, ⟨Same.refl h, fun c o m e => ?_, fun c m => .inl (by simpa using m), fun c o e => .inl e⟩, fun c o e => ?_⟩
  · rw [upd_ne (fun z => m (by simp [z]))]; exact .inl e
  · rw [upd_ne (fun z => by subst z; rw [n] at e; cases e)]; exact sb c o e
theorem Ats.eraseIdx {K : PySem.W.Frag} {h : Hp} : ∀ {l : List D} {l' : List V} (n : Nat), Ats K h l l' → Ats K h (l.eraseIdx n) (l'.eraseIdx n)
  | _, _, _, .nil => .nil
  | _, _, 0, .cons _ r => r
  | _, _, n + 1, .cons a r => .cons a (r.eraseIdx n)
theorem Ats.dropLast {K : PySem.W.Frag} {h : Hp} : ∀ {l : List D} {l' : List V}, Ats K h l l' → Ats K h l.dropLast l'.dropLast
  | _, _, .nil => .nil
  | _, _, .cons a .nil => .nil
  | _, _, .cons a (.cons b r) => .cons a (Ats.dropLast (.cons b r))
theorem Ats.reverse {K : PySem.W.Frag} {h : Hp} : ∀ {l : List D} {l' : List V}, Ats K h l l' → Ats K h l.reverse l'.reverse
  | _, _, .nil => .nil
  | _, _, .cons a r => by
    rw [List.reverse_cons, List.reverse_cons]
    exact (Ats.reverse r).app (.cons a .nil)
theorem md_of {X : Cx} {id : String} {r : V → List V → Hp → VK → Prop} {k : NT} (o : MtM X id r) (h : ∀ x xs H Q, rOfM X.K k x xs H Q → r x xs H Q) : MdK X id k := fun pins s σ H x xs v us Q I rx rs q => o pins s σ H x xs v us Q I rx rs (h _ _ _ _ q)
theorem append_ok : MdK X "list.append" appendN := md_of mt_append fun x xs H Q ⟨h, t, fc, ds, R, sb, ow, nd, a, w, c⟩ => by
  unfold appendN at w
  split at w
  · cases ow with
    | ls n b r =>
      cases a with
      | cons a ar =>
        cases ar
        exact ⟨_, _, _, rfl, rfl, b, by rw [← r.length]; exact Nat.lt_of_lt_of_le w.1 (by decide), c _ _ ⟨h, _, _, _, _, ls_write (l := []) sb n b (r.app (.cons a .nil)) .non, w.2⟩⟩
  · exact w.elim
theorem extend_ok : MdK X "list.extend" extendN := md_of mt_extend fun x xs H Q ⟨h, t, fc, ds, R, sb, ow, nd, a, w, c⟩ => by
  unfold extendN at w
  split at w
  · cases ow with
    | ls n b r =>
      cases a with
      | cons a ar =>
        cases ar
        cases a with
        | lst e r2 => exact ⟨_, _, _, _, rfl, rfl, b, sb.lst e, by rw [← r.length, ← r2.length]; exact sz100 w.1, c _ _ ⟨h, _, _, _, _, ls_write (l := []) sb n b (r.app r2) .non, w.2⟩⟩
  · exact w.elim
end
end DL
namespace DL
open PySem PySem.Spec L2
def putL {κ α : Type} [DecidableEq κ] : List (κ × α) → κ → α → List (κ × α)
  | [], k, v => [(k, v)]
  | (k', v') :: r, k, v => if k' = k then (k', v) :: r else (k', v') :: putL r k v
abbrev NS := T → D → D → (T → Prop) → Prop
def storeN : NS := fun t di dv R => match t with
  | .ls l => (match di with | .int i => (match ixN l.length i with | some j => R (.ls (l.set j dv)) | none => False) | _ => False)
  | .dk l => (match keyOf di with | some k => (l.map (·.1)).Nodup ∧ l.length < 10000000 ∧ R (.dk (putL l k dv)) | none => False)
  | .dt l => (match di with | .tup ds => (match keysOf ds with | some k => (l.map (·.1)).Nodup ∧ l.length < 10000000 ∧ R (.dt (putL l k dv)) | none => False) | _ => False)
  | .dm l => (match keyOf di with | some k => (match look l k with | some (.fz _) => (l.map (·.1)).Nodup ∧ l.length < 10000000 ∧ R (.dm (setL l k (.fz dv))) | _ => False) | none => False)
  | _ => False
def rOfS (K : PySem.W.Frag) (k : NS) : TSet := fun o i v H Q' => ∃ h t fc di dv R, Sub h H ∧ Own K h H t o fc ∧ fc.Nodup ∧ AtR K h H di i ∧ At K h dv v ∧ k t di dv R ∧
  ∀ H', (∃ h' t' fc', NRes K h H fc h' H' t' o fc' (.fz .non) .non [] ∧ R t') → Q' H'
theorem Ats.set {K : PySem.W.Frag} {h : Hp} {d : D} {v : V} (a : At K h d v) : ∀ {l : List D} {l' : List V} (i : Nat), Ats K h l l' → Ats K h (l.set i d) (l'.set i v)
  | _, _, _, .nil => .nil
  | _, _, 0, .cons _ r => .cons a r
  | _, _, i + 1, .cons b r => .cons b (Ats.set a i r)
theorem putK_neg {κ : Type} [DecidableEq κ] {k k' : κ} {v v' : V} {r : List (κ × V)} (h : ¬ k' = k) : putK ((k', v') :: r) k v = (k', v') :: putK r k v := by
  unfold putK
  simp only [List.any_cons, List.map_cons, h, decide_false, Bool.false_or]
  split <;> simp [h]
theorem putK_pos {κ : Type} [DecidableEq κ] {k : κ} {v v' : V} {r : List (κ × V)} (h : k ∉ r.map (·.1)) : putK ((k, v') :: r) k v = (k, v) :: r := by
  unfold putK
  simp only [List.any_cons, decide_true, Bool.true_or, if_true, List.map_cons]
  congr 1
  conv => rhs; rw [← List.map_id r]
  refine List.map_congr_left fun p m => ?_
  rw [if_neg (fun z => h (List.mem_map.mpr ⟨p, m, z⟩))]
  rfl
theorem AtK.keys {K : PySem.W.Frag} {h : Hp} : ∀ {l : List (Key × D)} {m : List (Key × V)}, AtK K h l m → m.map (·.1) = l.map (·.1)
  | _, _, .nil => rfl
  | _, _, .cons _ r => by simp [r.keys]
theorem AtT.keys {K : PySem.W.Frag} {h : Hp} : ∀ {l : List (List Key × D)} {m : List (List Key × V)}, AtT K h l m → m.map (·.1) = l.map (·.1)
  | _, _, .nil => rfl
  | _, _, .cons _ r => by simp [r.keys]
theorem AtK.put {K : PySem.W.Frag} {h : Hp} {k : Key} {d : D} {v : V} (a : At K h d v) : ∀ {l : List (Key × D)} {m : List (Key × V)}, AtK K h l m → (l.map (·.1)).Nodup → AtK K h (putL l k d) (putK m k v)
  | _, _, .nil, _ => .cons a .nil
  | _, _, .cons (k := k') b r, nd => by
    simp only [List.map_cons, List.nodup_cons] at nd
    by_cases e : k' = k
    · subst e
      rw [putK_pos (by rw [r.keys]; exact nd.1)]
      simp only [putL, if_pos]
      exact .cons a r
    · rw [putK_neg e]
      simp only [putL, if_neg e]
      exact .cons b (AtK.put a r nd.2)
theorem AtT.put {K : PySem.W.Frag} {h : Hp} {k : List Key} {d : D} {v : V} (a : At K h d v) : ∀ {l : List (List Key × D)} {m : List (List Key × V)}, AtT K h l m → (l.map (·.1)).Nodup → AtT K h (putL l k d) (putK m k v)
  | _, _, .nil, _ => .cons a .nil
  | _, _, .cons (k := k') b r, nd => by
    simp only [List.map_cons, List.nodup_cons] at nd
    by_cases e : k' = k
    · subst e
      rw [putK_pos (by rw [r.keys]; exact nd.1)]
      simp only [putL, if_pos]
      exact .cons a r
    · rw [putK_neg e]
      simp only [putL, if_neg e]
      exact .cons b (AtT.put a r nd.2)
theorem AtK.length {K : PySem.W.Frag} {h : Hp} {l : List (Key × D)} {m : List (Key × V)} (a : AtK K h l m) : l.length = m.length := by
  have := congrArg List.length a.keys; simpa using this.symm
theorem AtT.length {K : PySem.W.Frag} {h : Hp} {l : List (List Key × D)} {m : List (List Key × V)} (a : AtT K h l m) : l.length = m.length := by
  have := congrArg List.length a.keys; simpa using this.symm
/-- a node of one object is written -/
theorem one_write {K : PySem.W.Frag} {h H : Hp} {a : Addr} {o' : HO} {t' : T} (sb : Sub h H) (n : h a = none) (ow : Own K h (upd H a o') t' (.ref a) [a]) : NRes K h H [a] h (upd H a o') t' (.ref a) [a] (.fz .non) .non [] := by
  refine ⟨ow, .fz .non, by simp, ⟨Same.refl h, fun c o m e => ?_, fun c m => .inl (by simpa using m), fun c o e => .inl e⟩, fun c o e => ?_⟩
  · rw [upd_ne (fun z => m (by simp [z]))]; exact .inl e
  · rw [upd_ne (fun z => by subst z; rw [n] at e; cases e)]; exact sb c o e
theorem OwnK.keys {K : PySem.W.Frag} {h H : Hp} : ∀ {l : List (Key × T)} {m : List (Key × V)} {fp : List Addr}, OwnK K h H l m fp → m.map (·.1) = l.map (·.1)
  | _, _, _, .nil => rfl
  | _, _, _, .cons _ r => by simp [r.keys]
theorem OwnK.put {K : PySem.W.Frag} {h H : Hp} {k : Key} {d d0 : D} {v : V} (a : At K h d v) : ∀ {l : List (Key × T)} {m : List (Key × V)} {fp : List Addr}, OwnK K h H l m fp → look l k = some (.fz d0) → (l.map (·.1)).Nodup → OwnK K h H (setL l k (.fz d)) (putK m k v) fp
  | _, _, _, .nil, e, _ => by cases e
  | _, _, _, .cons (k := k') b r, e, nd => by
    simp only [List.map_cons, List.nodup_cons] at nd
    by_cases q : k' = k
    · subst q
      simp only [look, if_pos, Option.some.injEq] at e
      subst e
      cases b
      rw [putK_pos (by rw [r.keys]; exact nd.1)]
      simp only [setL, if_pos]
      exact .cons (.fz a) r
    · rw [putK_neg q]
      simp only [look, if_neg q] at e
      simp only [setL, if_neg q]
      exact .cons b (OwnK.put a r e nd.2)
/-- a node is written, its children stay -/
theorem node_write {K : PySem.W.Frag} {h H : Hp} {a : Addr} {fp : List Addr} {o' : HO} {t' : T} (sb : Sub h H) (n : h a = none) (nd : (a :: fp).Nodup) (ow : Own K h (upd H a o') t' (.ref a) (a :: fp)) : NRes K h H (a :: fp) h (upd H a o') t' (.ref a) (a :: fp) (.fz .non) .non [] := by
  refine ⟨ow, .fz .non, by simpa using nd, ⟨Same.refl h, fun c o m e => ?_, fun c m => .inl (by simpa using m), fun c o e => .inl e⟩, fun c o e => ?_⟩
  · rw [upd_ne (fun z => m (by simp [z]))]; exact .inl e
  · rw [upd_ne (fun z => by subst z; rw [n] at e; cases e)]; exact sb c o e
section
variable {X : Cx}
theorem set_dict (hu : X.A.units + 1 < cLine) : PSet X (fun o i v H Q => ∃ a H', o = .ref a ∧ DPut H a i v H' ∧ Q H') := fun pins s σ H o i v ov iv u Q I ro ri rv ⟨a, H', e, g, q⟩ => by
  subst e
  cases (show ov = Value.ref a from ro)
  exact d_setItem hu I g ri rv fun t J => ⟨H', J, q⟩
theorem pset_or {r r' : TSet} (h : PSet X r) (h' : PSet X r') : PSet X (fun o i v H Q => r o i v H Q ∨ r' o i v H Q) := fun pins s σ H o i v ov iv u Q I ro ri rv q => by
  rcases q with q | q
  · exact h pins s σ H o i v ov iv u Q I ro ri rv q
  · exact h' pins s σ H o i v ov iv u Q I ro ri rv q
theorem store_ok (hu : X.A.units + 1 < cLine) : PSet X (rOfS X.K storeN) := fun pins s σ H o i v ov iv u Q I ro ri rv ⟨h, t, fc, di, dv, R, sb, ow, nd, ai, av, w, c⟩ => by
  refine pset_or set_list (set_dict hu) pins s σ H o i v ov iv u Q I ro ri rv ?_
  unfold storeN at w
  split at w
  · rename_i l
    split at w
    · rename_i j
      split at w
      · rename_i k ek
        cases ow with
        | @ls a0 l0 vs0 n b r => exact .inl ⟨a0, vs0, j, k, rfl, ai.int, b, by rw [← r.length]; exact ek, c _ ⟨h, _, _, one_write sb n (.ls n upd_same (Ats.set av k r)), w⟩⟩
      · exact w.elim
    · exact w.elim
  · rename_i l
    split at w
    · rename_i k ek
      cases ow with
      | @dk a0 l0 m0 n b r =>
        have ei := keyOf_atR ek ai
        subst ei
        exact .inr ⟨a0, _, rfl, DPut.k b (by rw [← r.length]; exact Nat.lt_of_lt_of_le w.2.1 (by decide)), c _ ⟨h, _, _, one_write sb n (.dk n upd_same (r.put av w.1)), w.2.2⟩⟩
    · exact w.elim
  · rename_i l
    split at w
    · rename_i ds
      split at w
      · rename_i k ek
        cases ow with
        | @dt a0 l0 m0 n b r =>
          obtain ⟨q, ws, rfl, e2, al2⟩ := ai.tup sb
          rw [keysOf_at ek al2] at e2
          exact .inr ⟨a0, _, rfl, DPut.t b e2 (by rw [← r.length]; exact Nat.lt_of_lt_of_le w.2.1 (by decide)), c _ ⟨h, _, _, one_write sb n (.dt n upd_same (r.put av w.1)), w.2.2⟩⟩
      · exact w.elim
    · exact w.elim
  · rename_i l
    split at w
    · rename_i k ek
      split at w
      · rename_i d0 e0
        cases ow with
        | @dm a0 l0 m0 fp n b r =>
          have ei := keyOf_atR ek ai
          subst ei
          have hl : m0.length = l.length := by have := congrArg List.length r.keys; simpa using this
          have nda := (List.nodup_cons.mp nd).1
          refine .inr ⟨a0, _, rfl, DPut.k b (by rw [hl]; exact Nat.lt_of_lt_of_le w.2.1 (by decide)), c _ ⟨h, _, _, node_write sb n nd (.dm n upd_same ((r.put av e0 w.1).move (Same.refl h) (fun x m => ?_) fun x m => (r.there x m).1)), w.2.2⟩⟩
          exact upd_ne fun z => nda (z ▸ m)
      · exact w.elim
    · exact w.elim
  · exact w.elim
/-- place[index] = e -/
def dStore (pi : Bool) (te to ti : DTE) : DTS := fun Ds G => te G fun G1 v => fzW G1 v fun G2 d => to G2 fun G3 vo => match vo with
  | .pk i p => ti G3 fun G4 vi => (p = none ∨ pi = true) ∧ rdW G4 vi fun y => (match atE G4 i p with | some t => storeN t y d fun t' => Ds.nx (setE G4 i p t') | none => False)
  | .t _ => False
theorem ds_store {pa po pi : Bool} {m : Nat} {e o ix : Expr} {te to ti : DTE} {pos pos' : Pos} (hu : X.A.units + 1 < cLine) (he : DE X pa e te) (ho : DE X po o to) (hi : DE X pi ix ti)
    (ha : ∀ v, assign (.Subscript o ix pos') X.env v = (do
      let ov ← holding [v] (eval o X.env)
      let iv ← holding [v, ov] (eval ix X.env)
      standAt pos'
      holding [v, ov, iv] (setItem ov iv v)
      release [v, ov, iv] []) := by intro _; rfl)
    (hs : swapsWithSole [.Subscript o ix pos'] e pos.line X.env = pure false := by rfl) (hw : swappedStores [.Subscript o ix pos'] e X.env = pure none := by rfl)
    (h1 : (assignEach [.Subscript o ix pos'] X.env).map (·.2) = [assign (.Subscript o ix pos') X.env] := by rfl) :
    DS X m (.Assign [.Subscript o ix pos'] e pos) (dStore pi te to ti) := by
  refine ps_imp (ps_asg he (pg_sub ho hi (store_ok hu) ha) hs hw h1) fun D σ H ⟨h, G, fp, Ds, S, w, kn, kr, kx⟩ => ?_
  refine ⟨h, G, fp, _, S, w, fun v H1 ⟨h1, G1, f1, va, fva, r1, w1⟩ => ?_⟩
  obtain ⟨h2, G2, f2, d, S2, a2, e2, w2⟩ := r1.fz w1
  refine ⟨h2, G2, f2, _, S2, w2, fun vo H3 ⟨h3, G3, f3, vlo, fvo, r3, w3⟩ => ?_⟩
  cases vlo with
  | t t => exact w3.elim
  | pk i p =>
    cases r3.ov with
    | pk l e =>
      refine ⟨h3, G3, f3, _, r3.st, w3, fun vi H4 ⟨h4, G4, f4, vli, fvi, r4, hp, w4⟩ => ?_⟩
      have l4 : LocV H4 σ i p vo := by
        rcases hp with rfl | hp
        · exact l
        · obtain ⟨_, q2, q3⟩ := r4.pu hp
          exact l.keep r3.st e q3
      obtain ⟨y, ay, w5⟩ := r4.ov.rd r4.st w4
      split at w5
      · rename_i t et
        obtain ⟨fc, oc, ndc, chg⟩ := loc_change r4.st et l4
        refine ⟨h4, t, fc, y, d, _, r4.st.sub, oc, ndc, ay, a2.mono (r3.ex.gh.trans r4.ex.gh), w5, fun H' ⟨h', t', fc', n, q⟩ => ?_⟩
        obtain ⟨fp', S5, _, nd5, e5⟩ := chg n
        simp only [List.append_nil] at nd5 e5
        exact kn σ H' ⟨h', _, fp', S5, ((e2.trans r3.drop).trans r4.drop).trans e5, rfl, q⟩
      · exact w5.elim
def dNewK : DTE := fun G Q => Q G (.t (.dk []))
def dNewT : DTE := fun G Q => Q G (.t (.dt []))
theorem new_one {K : PySem.W.Frag} {h H : Hp} {p : Addr} {o : HO} {t : T} {R : T → Prop} (s : Sub h H) (np : H p = none) (ow : h p = none → Own K h (upd H p o) t (.ref p) [p]) (q : R t) : OpPost K h H R (.ref p) (upd H p o) := by
  have hp : h p = none := by
    cases e : h p with
    | none => rfl
    | some o => obtain ⟨u, q⟩ := s.there e; rw [np] at q; cases q
  refine ⟨h, t, [p], ⟨Same.refl h, fun a u e => ?_, fun a u e => ?_, ow hp, by simp, by simpa using np, fun _ _ e => .inl e⟩, q⟩
  · rw [upd_ne (fun z => by subst z; rw [hp] at e; cases e)]; exact s a u e
  · rw [upd_ne (ne_of_none e np)]; exact e
theorem de_newT {pos : Pos} : DE X true (.Dict [] [] pos) dNewT := pe_imp pe_dnewT fun σ H Q ⟨h, G, fp, Q', S, w, c⟩ p np =>
  c _ _ (OpPost.res S (Ext.refl h H fp) (fun _ => ⟨rfl, rfl, fun _ _ => rfl⟩) (R := fun t => t = .dt []) (new_one S.sub np (fun hp => .dt hp upd_same .nil) rfl) fun t e => e ▸ w)
end
end DL
namespace DL
open PySem PySem.Spec L2
section
variable {X : Cx} {pa pb pc : Bool} {a b c e : Expr} {es : List Expr} {ta tb tc te : DTE} {tA : DTA} {id x T₀ : String} {k : DN} {p pos : Pos}
theorem de_cb1 {x : Str} (C : CaK X (.builtin id) k) (hg : Gl X x) (hm : X.mg x = none) (hv : bootBuiltins x = some (.builtin id)) (he : DE X pa e te) (hn : x ≠ "__name__" := by decide) (hdb : (x == ("__debug__" : Str)) = false := by decide)
    (hs : starEach [e] X.env = (false, eval e X.env) :: starEach [] X.env := by rfl) (hpl : (backTo pos (starEach [] X.env)).any (·.1) = false := by rfl) : DE X pa (.Call (.Name x p) [e] [] pos) (dCB1 (fun y R => k [y] R) te) :=
  pe_imp (pe_callB C hg hm hv (pa_cons he pa_nil hs) hn hdb hs hpl) fun _ _ _ w => cb1_imp (fun _ _ q => q) w
theorem de_ct1 {x : Str} (C : CaK X (.type T₀) k) (hg : Gl X x) (hm : X.mg x = none) (hv : bootBuiltins x = some (.type T₀)) (he : DE X pa e te) (hn : x ≠ "__name__" := by decide) (hdb : (x == ("__debug__" : Str)) = false := by decide)
    (hs : starEach [e] X.env = (false, eval e X.env) :: starEach [] X.env := by rfl) (hpl : (backTo pos (starEach [] X.env)).any (·.1) = false := by rfl) : DE X pa (.Call (.Name x p) [e] [] pos) (dCB1 (fun y R => k [y] R) te) :=
  pe_imp (pe_callTy C hg hm hv (pa_cons he pa_nil hs) hn hdb hs hpl) fun _ _ _ w => cb1_imp (fun _ _ q => q) w
theorem de_cbN {x : Str} (C : CaK X (.builtin id) k) (hg : Gl X x) (hm : X.mg x = none) (hv : bootBuiltins x = some (.builtin id)) (ha : DA X pa (e :: es) tA) (hn : x ≠ "__name__" := by decide) (hdb : (x == ("__debug__" : Str)) = false := by decide)
    (hs : starEach (e :: es) X.env = (false, eval e X.env) :: starEach es X.env := by rfl) (hpl : (backTo pos (starEach es X.env)).any (·.1) = false := by rfl) : DE X pa (.Call (.Name x p) (e :: es) [] pos) (dCB k tA) :=
  pe_imp (pe_callB C hg hm hv ha hn hdb hs hpl) fun _ _ _ w => cb_imp w
theorem de_cb1c {x : Str} {e2 : Expr} {v2 : V} {d2 : D} (C : CaK X (.builtin id) k) (hg : Gl X x) (hm : X.mg x = none) (hv : bootBuiltins x = some (.builtin id)) (he : DE X pa e te) (h2 : PE X e2 (tC v2)) (r2 : ∀ h, At X.K h d2 v2) (hn : x ≠ "__name__" := by decide) (hdb : (x == ("__debug__" : Str)) = false := by decide)
    (hs2 : starEach [e2] X.env = (false, eval e2 X.env) :: starEach [] X.env := by rfl)
    (hs : starEach [e, e2] X.env = (false, eval e X.env) :: starEach [e2] X.env := by rfl) (hpl : (backTo pos (starEach [e2] X.env)).any (·.1) = false := by rfl) : DE X pa (.Call (.Name x p) [e, e2] [] pos) (dCB1 (fun y R => k [y, d2] R) te) :=
  pe_imp (pe_callB C hg hm hv (pa_cons he (pa_cons h2 pa_nil hs2) hs) hn hdb hs hpl) fun _ _ _ w => by
    obtain ⟨h, G, fp, Q', S, w, c⟩ := w
    refine ⟨h, G, fp, _, S, w, fun v H1 ⟨h1, G1, f1, va, fva, r1, w1⟩ => ?_⟩
    obtain ⟨x, ax, w2⟩ := r1.ov.rd r1.st w1
    exact ⟨h1, [x, d2], _, r1.st.sub, .cons ax (.cons (.of (r2 _)) .nil), w2, fun v' H' o => c v' H' (o.res r1.st r1.drop r1.pu fun t q => q)⟩
theorem isN_ok : OpK X (compareOp .Is) (isNoneD false) := by
  refine opk_of op_isN fun x y H Q ⟨h, dx, dy, R, sb, ax, ay, w, c⟩ => ?_
  unfold isNoneD at w
  split at w
  · refine ⟨ay.non, c _ H (.plain sb .bl ?_)⟩
    cases ax with
    | of ax => cases ax <;> simp_all
    | ls _ _ => simpa using w
    | dk _ _ => simpa using w
    | dt _ _ => simpa using w
  · exact w.elim
/-- a < b < c, on ints -/
def isI (d : D) (k : Int → Prop) : Prop := match d with | .int i => k i | _ => False
theorem isI_of {d : D} {k : Int → Prop} (w : isI d k) : ∃ i, d = .int i ∧ k i := by
  cases d <;> first | exact w.elim | exact ⟨_, rfl, w⟩
def dChain (f g : Int → Int → Bool) (ta tb tc : DTE) : DTE := fun G Q => ta G fun G1 va => rdW G1 va fun x => tb G1 fun G2 vb => rdW G2 vb fun y => isI x fun i => isI y fun j =>
  if f i j = true then tc G2 fun G3 vc => rdW G3 vc fun z => isI z fun l => Q G3 (.t (.fz (.bl (g j l)))) else Q G2 (.t (.fz (.bl false)))
theorem chain_imp {K : PySem.W.Frag} {σ : L2.St} {H : Hp} {Q : VK} {f g : Int → Int → Bool} (w : sE K (pa && (pb && pc)) (dChain f g ta tb tc) σ H Q) :
    tChain (rI0 fun i j => .bl (f i j)) (rI0 fun i j => .bl (g i j)) (sE K pa ta) (sE K pb tb) (sE K pc tc) σ H Q := by
  obtain ⟨h, G, fp, Q', S, w0, c⟩ := w
  refine ⟨h, G, fp, _, S, w0, fun v H1 p1 => ?_⟩
  obtain ⟨h1, G1, f1, va, fva, r1, w1⟩ := p1
  obtain ⟨dx, ax, w2⟩ := r1.ov.rd r1.st w1
  refine ⟨h1, G1, f1, _, r1.st, w2, fun u H2 p2 => ?_⟩
  obtain ⟨h2, G2, f2, vb, fvb, r2, w3⟩ := p2
  obtain ⟨dy, ay, w4⟩ := r2.ov.rd r2.st w3
  have e2 := r1.drop.trans r2.drop
  obtain ⟨i, ei, w5⟩ := isI_of w4
  obtain ⟨j, ej, w6⟩ := isI_of w5
  rw [ei] at ax
  rw [ej] at ay
  refine ⟨i, j, ax.int, ay.int, f i j, rfl, ?_⟩
  by_cases hf : f i j = true
  · rw [if_pos hf] at w6 ⊢
    refine ⟨h2, G2, f2, _, r2.st, w6, fun z H3 p3 => ?_⟩
    obtain ⟨h3, G3, f3, vc, fvc, r3, w7⟩ := p3
    obtain ⟨dz, az, w8⟩ := r3.ov.rd r3.st w7
    obtain ⟨l, el, w9⟩ := isI_of w8
    rw [el] at az
    refine ⟨j, l, ay.int, az.int, c _ H3 ⟨h3, G3, f3, _, [], res_bl r3.st (e2.trans r3.drop) (fun z => ?_), w9⟩⟩
    simp only [Bool.and_eq_true] at z
    obtain ⟨q1, q2, q3⟩ := r1.pu z.1
    obtain ⟨s1, s2, s3⟩ := r2.pu z.2.1
    obtain ⟨u1, u2, u3⟩ := r3.pu z.2.2
    exact ⟨u1.trans (s1.trans q1), u2.trans (s2.trans q2), fun a m => (u3 a (s2 ▸ q2 ▸ m)).trans ((s3 a (q2 ▸ m)).trans (q3 a m))⟩
  · rw [if_neg hf] at w6 ⊢
    refine c _ H2 ⟨h2, G2, f2, _, [], res_bl r2.st e2 (fun z => ?_), w6⟩
    simp only [Bool.and_eq_true] at z
    obtain ⟨q1, q2, q3⟩ := r1.pu z.1
    obtain ⟨s1, s2, s3⟩ := r2.pu z.2.1
    exact ⟨s1.trans q1, s2.trans q2, fun a m => (s3 a (q2 ▸ m)).trans (q3 a m)⟩
theorem dt_chain {op op' : CmpOp} {f g : Int → Int → Bool} (ho : OpR X (compareOp op) (rI0 fun i j => .bl (f i j))) (ho' : OpR X (compareOp op') (rI0 fun i j => .bl (g i j))) (ha : DE X pa a ta) (hb : DE X pb b tb) (hc : DE X pc c tc)
    (hm : lastMarks [op, op'] [b, c] = false := by with_unfolding_all rfl) : DT X (pa && (pb && pc)) (.Compare a [op, op'] [b, c] pos) (dVal (dChain f g ta tb tc)) :=
  pt_imp (pt_chain ho ho' ha hb hc hm) fun σ H Q w => by
    obtain ⟨h, G, fp, Q', S, w, c⟩ := val_imp w
    exact chain_imp ⟨h, G, fp, Q', S, w, c⟩
/-- x, y = a, b -/
def dPar (i j : Nat) (tA : DTA) : DTS := fun Ds G => tA G fun G1 as => match as with
  | [.d d1, .d d2] => i < G1.length ∧ j < G1.length ∧ Ds.nx ((G1.set i (some (.fz d1))).set j (some (.fz d2)))
  | _ => False
theorem ds_par {m i j : Nat} {x y : Str} {px py pt : Pos} {kt k2 pt2} (hc : X.calm = true) (hN : X.N.Nodup) (hi : X.N[i]? = some x) (hj : X.N[j]? = some y) (hij : i ≠ j)
    (hx : X.env.scope.names.lookup x = some .local) (hy : X.env.scope.names.lookup y = some .local) (mi : m ≤ i) (mj : m ≤ j) (ha : DA X pa [a, b] tA)
    (hw : swappedStores [.Tuple [.Name x px, .Name y py] kt pt] (.Tuple [a, b] k2 pt2) X.env = pure (some [x, y]) := by rfl)
    (hs : swapsWithSole [.Tuple [.Name x px, .Name y py] kt pt] (.Tuple [a, b] k2 pt2) pos.line X.env = pure false := by rfl) :
    DS X m (.Assign [.Tuple [.Name x px, .Name y py] kt pt] (.Tuple [a, b] k2 pt2) pos) (dPar i j tA) :=
  ps_imp (ps_par hc hN hi hj hij hx hy ha hw hs) fun D σ H ⟨h, G, fp, Ds, S, w, kn, kr, kx⟩ => by
    refine ⟨h, G, fp, _, S, w, fun vs H1 ⟨h1, G1, f1, as, S1, av, e1, p1, w1⟩ => ?_⟩
    dsimp only at w1
    split at w1
    · cases av with
      | d a1 av => cases av with
        | d a2 av =>
          cases av
          obtain ⟨l1, l2, w1⟩ := w1
          obtain ⟨g1, T1, s1⟩ := S1.store l1 (.fz a1) (by simpa using S1.nd)
          obtain ⟨g2, T2, s2⟩ := T1.store (i := j) (by simpa using l2) (.fz a2) (by simpa using T1.nd)
          refine ⟨_, _, rfl, kn _ H1 ⟨h1, _, g2, T2, e1.weak fun z mz => ?_, (take_set mj).trans (take_set mi), w1⟩⟩
          simpa using s1 z (by simpa using s2 z mz)
    · exact w1.elim
/-- list(range(..)), tuple(range(..)) -/
def dListR1 (te : DTE) : DTE := fun G Q => te G fun G1 v => rdW G1 v fun d => isI d fun n => RgOk 0 n ∧ Q G1 (.t (.ls (upto 0 n.toNat)))
theorem upto_ats {K : PySem.W.Frag} {h : Hp} (lo : Int) (n : Nat) : Ats K h (upto lo n) ((List.range n).map fun i => V.int (lo + (i : Nat))) := by
  unfold upto
  induction List.range n with
  | nil => exact .nil
  | cons i r ih => exact .cons .int ih
theorem de_listR1 {p2 pos2 : Pos} (hc : X.calm = true) (hg : Gl X "list") (hm : X.mg "list" = none) (hgr : Gl X "range") (hmr : X.mg "range" = none) (ha : DE X pa a ta)
    (na : starEach [a] X.env = (false, eval a X.env) :: starEach [] X.env := by rfl) (nb : starEach [.Call (.Name "range" p2) [a] [] pos2] X.env = (false, eval (.Call (.Name "range" p2) [a] [] pos2) X.env) :: starEach [] X.env := by rfl) :
    DE X pa (.Call (.Name "list" p) [.Call (.Name "range" p2) [a] [] pos2] [] pos) (dListR1 ta) :=
  pe_imp (pe_listRg hc hg hm (prg_1 hgr hmr ha na) nb) fun σ H Q ⟨h, G, fp, Q', S, w, c⟩ => by
    refine ⟨h, G, fp, _, S, w, fun v H1 p1 => ?_⟩
    obtain ⟨h1, G1, f1, va, fva, r1, w1⟩ := p1
    obtain ⟨x, ax, w2⟩ := r1.ov.rd r1.st w1
    obtain ⟨n, en, w3⟩ := isI_of w2
    rw [en] at ax
    refine ⟨n, ax.int, w3.1, fun q nq => c _ _ ?_⟩
    have := OpPost.list (K := X.K) (R := fun t => t = .ls (upto 0 n.toNat)) r1.st.sub nq (upto_ats 0 n.toNat) rfl
    unfold rgV
    rw [Int.sub_zero]
    exact OpPost.res r1.st r1.drop r1.pu this fun t e => e ▸ w3.2
theorem hu65 {A : Around} {k : Nat} (hr : Room k A) : A.units + 65 < cLine := by have := hr.un; omega
theorem hu2 {A : Around} {k : Nat} (hr : Room k A) : A.units + 2 < cLine := by have := hr.un; omega
theorem hu1 {A : Around} {k : Nat} (hr : Room k A) : A.units + 1 < cLine := by have := hr.un; omega
theorem lt_big {j : Int} (h : j < 2 ^ 62) : j < 2 ^ 5000 := by
  have h2 : (2 : Int) ^ 62 ≤ 2 ^ 5000 := by
    rw [show (5000 : Nat) = 62 + 4938 from rfl, Int.pow_add]
    have : (1 : Int) ≤ 2 ^ 4938 := by
      have := Int.pow_pos (n := 2) (m := 4938) (by decide); omega
    have q : (2 : Int) ^ 62 * 1 ≤ 2 ^ 62 * 2 ^ 4938 := Int.mul_le_mul_of_nonneg_left this (by decide)
    omega
  omega
end
end DL
namespace DL
open PySem PySem.Spec L2
/-- range(n)'s bound, then so many new things -/
def dNews (t0 : T) (ta : DTA) : DTE := fun G Q => ta G fun G1 as => withD as fun ds => match ds with | [.int j] => -(2 ^ 62) ≤ j ∧ j ≤ 1000 ∧ Q G1 (.t (.ll (List.replicate j.toNat t0))) | _ => False
theorem Owns.snoc {K : PySem.W.Frag} {h H : Hp} {t : T} {v : V} {fc : List Addr} : ∀ {ts : List T} {vs : List V} {fp : List Addr}, Owns K h H ts vs fp → Own K h H t v fc → Owns K h H (ts ++ [t]) (vs ++ [v]) (fp ++ fc)
  | _, _, _, .nil, o => by simpa using Owns.cons o .nil
  | _, _, _, .cons (f1 := f1) a r, o => by rw [List.append_assoc]; exact .cons a (r.snoc o)
section
variable {X : Cx} {pa : Bool} {ta : DTA} {m : Nat}
/-- a new thing, whatever the heap: its tree -/
structure NewT (K : PySem.W.Frag) (te : TE) (t0 : T) : Prop where
  at_ : ∀ (σ : L2.St) (h H : Hp) (Q : VK), Sub h H → (∀ p o, H p = none → h p = none → Own K h (upd H p o) t0 (.ref p) [p] → Q (.ref p) (upd H p o)) → te σ H Q
theorem news_imp {σ : L2.St} {H : Hp} {Q : VK} {i : Nat} {te : TE} {t0 : T} (nt : NewT X.K te t0) (w : sE X.K pa (dNews t0 ta) σ H Q) : tLc (iRng1 (sA X.K pa ta)) (gName i) tYes te [i] σ H Q := by
  obtain ⟨h, G, fp, Q', S, w, c⟩ := w
  refine ⟨h, G, fp, _, S, w, fun vs H1 p1 => ?_⟩
  obtain ⟨h1, G1, f1, as, S1, av, e1, p1, w1⟩ := p1
  obtain ⟨ds, ed, w2⟩ := withD_of w1
  have ad := avD_at av ed
  split at w2
  · rename_i j
    obtain ⟨b1, b2, w3⟩ := w2
    cases ad with
    | cons a r =>
      cases r
      cases a
      refine ⟨j, rfl, b1, by omega, fun D nD => ?_⟩
      have hD : h1 D = none := by
        cases q : h1 D with
        | none => rfl
        | some o => obtain ⟨u, e⟩ := S1.sub.there q; rw [nD] at e; cases e
      refine L2.lc_range (lo := 0) (n := j.toNat) (fun k H2 => ∃ (va : List V) (fa : List Addr), H2 D = some (.lst va) ∧ Owns X.K h1 H2 (List.replicate k t0) va fa ∧ fa.Nodup ∧ D ∉ fa ∧ (∀ a ∈ fa, H1 a = none) ∧ ∀ a o, H1 a = some o → H2 a = some o) ?_ (fun k H2 hk p => ?_) fun H2 p => ?_
      · exact ⟨[], [], upd_same, .nil, .nil, by simp, by simp, fun a o e => (upd_ne (ne_of_none e nD)).trans e⟩
      · obtain ⟨va, fa, eD, ow, nd, nDf, fr, old⟩ := p
        refine ⟨(wipe_set (vs := [i]) _ (by simp)).trans (wipe_wipe σ [i]), ?_⟩
        unfold tYes
        dsimp only
        rw [if_pos rfl]
        have sb : Sub h1 H2 := fun a o e => by
          rcases S1.sub a o e with q | ⟨d, ob, q⟩
          · exact .inl (old a o q)
          · exact .inr ⟨d, ob, old a _ q⟩
        refine nt.at_ _ h1 H2 _ sb fun p o np hp own => ?_
        have pD : D ≠ p := fun z => by subst z; rw [eD] at np; cases np
        have pf : p ∉ fa := fun z => by obtain ⟨_, u, e⟩ := ow.there p z; rw [np] at e; cases e
        have lva : va.length = k := by rw [← ow.length]; simp
        refine ⟨va, by rw [upd_ne pD]; exact eD, by rw [lva]; exact Nat.lt_of_lt_of_le (show k < 10000000 by omega) (by decide), va ++ [.ref p], fa ++ [p], upd_same, ?_, ?_, ?_, ?_, ?_⟩
        · rw [List.replicate_succ']
          have k1 : ∀ a ∈ fa, (upd (upd H2 p o) D (.lst (va ++ [.ref p]))) a = H2 a := fun a m => by
            rw [upd_ne (fun z => by subst z; exact nDf m), upd_ne (fun z => by subst z; exact pf m)]
          have k2 : ∀ a ∈ [p], (upd (upd H2 p o) D (.lst (va ++ [.ref p]))) a = upd H2 p o a := fun a m => by
            rw [upd_ne (fun z => by simp at m; subst m; exact pD z.symm)]
          exact (ow.move (Same.refl h1) k1 fun a m => (ow.there a m).1).snoc (own.move (Same.refl h1) k2 fun a m => (own.there a m).1)
        · exact List.nodup_append.mpr ⟨nd, by simp, fun x hx y hy e => by simp at hy; subst hy; subst e; exact pf hx⟩
        · simp only [List.mem_append, List.mem_singleton, not_or]; exact ⟨nDf, pD⟩
        · intro a m
          rcases List.mem_append.mp m with m | m
          · exact fr a m
          · simp at m; subst m
            cases q : H1 a with
            | none => rfl
            | some u => rw [old a u q] at np; cases np
        · intro a u e
          have n1 : a ≠ D := fun z => by subst z; rw [nD] at e; cases e
          have n2 : a ≠ p := fun z => by subst z; rw [old a u e] at np; cases np
          rw [upd_ne n1, upd_ne n2]; exact old a u e
      · obtain ⟨va, fa, eD, ow, nd, nDf, fr, old⟩ := p
        have o : OpRes X.K h1 H1 h1 H2 (.ll (List.replicate j.toNat t0)) (.ref D) (D :: fa) := by
          refine ⟨Same.refl h1, fun a o e => ?_, old, .ll hD eD ow, List.nodup_cons.mpr ⟨nDf, nd⟩, fun a m => ?_, fun _ _ e => .inl e⟩
          · rcases S1.sub a o e with q | ⟨d, ob, q⟩
            · exact .inl (old a o q)
            · exact .inr ⟨d, ob, old a _ q⟩
          · rcases List.mem_cons.mp m with rfl | m
            · exact nD
            · exact fr a m
        exact c _ H2 ⟨h1, G1, f1, .t _, _, o.res S1 e1 p1, w3⟩
  · exact w2.elim
theorem newK {K : PySem.W.Frag} : NewT K tDNewK (.dk []) := ⟨fun σ h H Q sb q p np => by
  have hp : h p = none := by
    cases e : h p with
    | none => rfl
    | some o => obtain ⟨u, z⟩ := sb.there e; rw [np] at z; cases z
  exact q p _ np hp (.dk hp upd_same .nil)⟩
theorem ds_setDicts {scope : Scope} {x y : Str} {px py p pr pos pd spos : Pos} {i j : Nat} {a : Expr} (hc : X.calm = true) (hN : X.N.Nodup) (hy : X.N[j]? = some y) (hyl : X.env.scope.names.lookup y = some .local)
    (hsw : swapsWith (.ListComp (.Dict [] [] pd) [⟨.Name x px, .Call (.Name "range" p) [a] [] pr, [], 0⟩] scope pos) (some (.Name y py)) spos.line X.env = pure true) (mj : m ≤ j)
    (hg : Gl X "range") (hm : X.mg "range" = none) (ha : DA X pa [a] ta) (ok : BlkOk X.N X.env.scope scope [(x, i)])
    (hx : ∀ (s : Shared) (H : Hp) (C : Addr) (cl : List (Str × Addr)) (fp : List Addr), PG (X.blk s H scope (compEnvC scope cl C X.env) fp) (.Name x px) (gName i))
    (hs : starEach [a] X.env = [(false, eval a X.env)] := by rfl) (hf : ∀ y, foldedSetIterable (.Call (.Name "range" p) [a] [] pr) X.env y = pure y := by intro _; rfl) :
    DS X m (.Assign [.Name y py] (.ListComp (.Dict [] [] pd) [⟨.Name x px, .Call (.Name "range" p) [a] [] pr, [], 0⟩] scope pos) spos) (dSet j (dNews (.dk []) ta)) :=
  ps_imp (ps_setLc (own := [(x, i)]) (g := gName i) (tt := tYes) (te := tDNewK) hc hN hy hyl hsw (pi_range1 hg hm ha hs) ok hx (fun _ _ _ _ _ => pts_nil) (fun _ _ _ _ _ => pe_dnewK) hf) fun D σ H w => by
    have q := set_imp (pa := pa) mj w
    have q2 : sE X.K pa (dNews (.dk []) ta) σ H (fun x H1 => gName j x σ H1 D.nx) := q
    exact news_imp newK q2
def dKid (ta tb : DTE) : DTE := fun G Q => ta G fun G1 va => match va with
  | .pk i none => tb G1 fun G2 vb => rdW G2 vb fun y => isI y fun j => (match G2[i]? with
    | some (some (.ll ts)) => (match ixN ts.length j with
      | some k => (match ts[k]? with
        | some (.fz d) => Q G2 (.t (.fz d))
        | some _ => Q G2 (.pk i (some (.ix k)))
        | none => False)
      | none => False)
    | _ => False)
  | _ => False
theorem Owns.get {K : PySem.W.Frag} {h H : Hp} : ∀ {ts : List T} {vs : List V} {fp : List Addr} {k : Nat} {t : T}, Owns K h H ts vs fp → ts[k]? = some t → ∃ v, vs[k]? = some v
  | _, _, _, _, _, .nil, e => by simp at e
  | _, _, _, 0, _, .cons (v := v) _ _, e => ⟨v, rfl⟩
  | _, _, _, k + 1, _, .cons _ r, e => by simpa using r.get (by simpa using e)
theorem de_kid {pb : Bool} {a b : Expr} {tA tB : DTE} {pos : Pos} (ha : DE X pa a tA) (hb : DE X pb b tB) (hs : PlainIx b) : DE X (pa && pb) (.Subscript a b pos) (dKid tA tB) := by
  refine pe_imp (pe_ix ix_list ha hb hs) fun σ H Q ⟨h, G, fp, Q', S, w, c⟩ => ?_
  refine ⟨h, G, fp, _, S, w, fun v H1 p1 => ?_⟩
  obtain ⟨h1, G1, f1, va, fva, r1, w1⟩ := p1
  cases va with
  | t t => exact w1.elim
  | pk i p =>
    cases p with
    | some s => exact w1.elim
    | none =>
      cases r1.ov with
      | pk l e =>
        obtain ⟨v0, ev, hv⟩ := l
        subst hv
        refine ⟨h1, G1, f1, _, r1.st, w1, fun u H2 p2 => ?_⟩
        obtain ⟨h2, G2, f2, vb, fvb, r2, w2⟩ := p2
        obtain ⟨y, ay, w3⟩ := r2.ov.rd r2.st w2
        obtain ⟨j, ej, w4⟩ := isI_of w3
        rw [ej] at ay
        have pur : (pa && pb) = true → G2 = G ∧ f2 = fp ∧ ∀ a ∈ fp, H2 a = H a := fun z => by
          rw [Bool.and_eq_true] at z
          obtain ⟨q1, q2, q3⟩ := r1.pu z.1
          obtain ⟨s1, s2, s3⟩ := r2.pu z.2
          exact ⟨s1.trans q1, s2.trans q2, fun a m => (s3 a (q2 ▸ m)).trans (q3 a m)⟩
        split at w4
        · rename_i ts eg
          obtain ⟨g1, gc, g2, ef, oc, _⟩ := r2.st.env.slot eg ev
          cases oc with
          | @ll a0 _ vs fa n b ow =>
            split at w4
            · rename_i k ek
              have hk : ∀ t, ts[k]? = some t → ∃ x, vs[k]? = some x ∧ atI vs j = some x := fun t et => by
                obtain ⟨x, ex⟩ := ow.get et
                refine ⟨x, ex, ?_⟩
                unfold atI
                rw [← ow.length, ek]
                exact ex
              split at w4
              · rename_i d ed
                obtain ⟨x, ex, ax⟩ := hk _ ed
                obtain ⟨q1, qc, q2, _, oz, _⟩ := ow.at ed ex
                cases oz with
                | fz ad => exact ⟨a0, vs, j, x, rfl, ay.int, SqL.of b, ax, c x H2 ⟨h2, G2, f2, _, [], ⟨r2.st, .t (.fz ad), by simpa using r2.st.nd, by simpa using r1.drop.trans r2.drop, pur⟩, w4⟩⟩
              · rename_i t hne et
                obtain ⟨x, ex, ax⟩ := hk _ et
                refine ⟨a0, vs, j, x, rfl, ay.int, SqL.of b, ax, c x H2 ⟨h2, G2, f2, .pk i (some (.ix k)), [], ⟨r2.st, .pk (t := t) ⟨_, ev, a0, rfl, vs, b, ex⟩ ?_, by simpa using r2.st.nd, by simpa using r1.drop.trans r2.drop, pur⟩, w4⟩⟩
                simp only [atE, eg, T.kid]
                exact et
              · exact w4.elim
            · exact w4.elim
        · exact w4.elim
end
end DL
namespace DL
open PySem PySem.Spec L2
def kidM (o : Option (Option T)) (k : Str) (f : D → Prop) (g : Prop) : Prop := match o with
  | some (some (.dm ts)) => (match look ts (.inr k) with
    | some (.fz d) => f d
    | some _ => g
    | none => False)
  | _ => False
/-- the part of a dict under a name -/
def dKidK (k : Str) (ta : DTE) : DTE := fun G Q => ta G fun G1 va => match va with
  | .pk i none => kidM G1[i]? k (fun d => Q G1 (.t (.fz d))) (Q G1 (.pk i (some (.ky (.inr k)))))
  | _ => False
section
variable {X : Cx} {pa pb pc : Bool} {a b c : Expr} {tA tB tC' : DTE} {pos : Pos}
/-- x[i], x a name, the index with whatever it does -/
def dIxV (i : Nat) (tb : DTE) : DTE := fun G Q => (∃ t, G[i]? = some (some t)) ∧ tb G fun G1 vb => rdW G1 vb fun y => (match G1[i]? with
  | some (some t) => rdT t fun x => ixD x y fun r => Q G1 (.t r)
  | _ => False)
/-- {k1: a, k2: b, k3: c}, c a thing of its own -/
def dDisp3 (k1 k2 k3 : Str) (t1 t2 t3 : DTE) : DTE := fun G Q => t1 G fun G1 v1 => fzW G1 v1 fun G1 d1 => t2 G1 fun G2 v2 => fzW G2 v2 fun G2 d2 => t3 G2 fun G3 v3 => match v3 with
  | .t t => Q G3 (.t (.dm [(.inr k1, .fz d1), (.inr k2, .fz d2), (.inr k3, t)]))
  | .pk _ _ => False
end
/-- the texts' other pen: two numbers and a list -/
abbrev penM (m t : Int) (l : List D) : T := .dm [(.inr "mixed", .fz (.int m)), (.inr "turn", .fz (.int t)), (.inr "wide", .ls l)]
theorem kMT : ¬ ((Sum.inr ("mixed" : Str) : Key) = Sum.inr ("turn" : Str)) := by decide +kernel
theorem kMW : ¬ ((Sum.inr ("mixed" : Str) : Key) = Sum.inr ("wide" : Str)) := by decide +kernel
theorem kTW : ¬ ((Sum.inr ("turn" : Str) : Key) = Sum.inr ("wide" : Str)) := by decide +kernel
section
variable {m t x : Int} {l l' : List D} {f : D → Prop} {g : Prop} {R : T → Prop}
theorem kidM_mixed : kidM (some (some (penM m t l))) "mixed" f g = f (.int m) := by
  simp only [kidM, penM, look, if_true]
theorem kidM_turn : kidM (some (some (penM m t l))) "turn" f g = f (.int t) := by
  simp only [kidM, penM, look, if_neg kMT, if_true]
theorem kidM_wide : kidM (some (some (penM m t l))) "wide" f g = g := by
  simp only [kidM, penM, look, if_neg kMW, if_neg kTW, if_true]
theorem kid_wide : T.kid (penM m t l) (.ky (.inr "wide")) = some (.ls l) := by
  simp only [T.kid, penM, look, if_neg kMW, if_neg kTW, if_true]
theorem setKid_wide : T.setKid (penM m t l) (.ky (.inr "wide")) (.ls l') = penM m t l' := by
  simp only [T.setKid, penM, setL, if_neg kMW, if_neg kTW, if_true]
theorem storeN_turn : storeN (penM m t l) (.str "turn") (.int x) R = R (penM m x l) := by
  simp only [storeN, penM, keyOf, look, if_neg kMT, if_true, setL, List.map_cons, List.map_nil, List.length_cons, List.length_nil]
  have nd : [(Sum.inr ("mixed" : Str) : Key), Sum.inr ("turn" : Str), Sum.inr ("wide" : Str)].Nodup := by decide +kernel
  simp [nd]
end
theorem atE_some {G : En} {i : Nat} {s : Stp} : atE G i (some s) = (match G[i]? with | some (some t) => t.kid s | _ => none) := rfl
theorem setE_some {G : En} {i : Nat} {s : Stp} {t' : T} : setE G i (some s) t' = (match G[i]? with | some (some t) => G.set i (some (t.setKid s t')) | _ => G) := rfl
theorem penM_eq {m t : Int} {l : List D} : T.dm [(.inr "mixed", .fz (.int m)), (.inr "turn", .fz (.int t)), (.inr "wide", .ls l)] = penM m t l := rfl
end DL
namespace DL
open PySem PySem.Spec PyProof.Rows L2
/-- the pairs of a row: a tuple of parts by value, whatever -/
def pairsT : List D → Option (List (List Key × D))
  | [] => some []
  | .tup [.tup kd, v] :: r => (match keysOf kd, pairsT r with | some k, some m => some ((k, v) :: m) | _, _ => none)
  | _ => none
def dictTD : DN := fun ds R => match ds with
  | [.lst l] => (match pairsT l with | some m => (m.map (·.1)).Nodup ∧ R (.dt m) | none => False)
  | _ => False
end DL
namespace DL
open PySem PySem.Spec L2
section
variable {X : Cx}
def keyD : Key → D
  | .inl i => .int i
  | .inr x => .str x
/-- the keys of a frozen dict -/
def iDict (te : DTE) : DTI := fun G Q => te G fun G1 v => fzW G1 v fun G2 d => match d with | .dK l => Q G2 (l.map fun p => keyD p.1) | .dT l => Q G2 (l.map fun p => .tup (p.1.map keyD)) | _ => False
theorem AtK.get {K : PySem.W.Frag} {h : Hp} : ∀ {l : List (Key × D)} {m : List (Key × V)} {i : Nat}, AtK K h l m → (l.map (·.1))[i]? = (m.map (·.1))[i]?
  | _, _, _, .nil => rfl
  | _, _, 0, .cons _ _ => rfl
  | _, _, i + 1, .cons _ r => by simpa using AtK.get (i := i) r
theorem AtT.get {K : PySem.W.Frag} {h : Hp} : ∀ {l : List (List Key × D)} {m : List (List Key × V)} {i : Nat}, AtT K h l m → (l.map (·.1))[i]? = (m.map (·.1))[i]?
  | _, _, _, .nil => rfl
  | _, _, 0, .cons _ _ => rfl
  | _, _, i + 1, .cons _ r => by simpa using AtT.get (i := i) r
end
end DL
namespace DL
open PySem PySem.Spec PyProof.Rows L2
end DL
namespace DL
open PySem PySem.Spec L2
section
variable {X : Cx}
def dListR2 (ta tb : DTE) : DTE := fun G Q => ta G fun G1 va => rdW G1 va fun x => isI x fun i => tb G1 fun G2 vb => rdW G2 vb fun y => isI y fun j => RgOk i j ∧ Q G2 (.t (.ls (upto i (j - i).toNat)))
/-- the value of a def's name -/
def fv (mg : Str → Option Value) (x : Str) : V := match mg x with | some (.ref f) => .ref f | _ => .non
section
variable {k j n m : Nat} {x : Str} {F : FS}
/-- slot i holds one of some defs -/
structure FT where
  x : Str
  k : Nat
  m : Nat
  F : FS
def dCallV (mg : Str → Option Value) (i n : Nat) (T : List FT) (ta : DTA) : DTE := fun G Q => ∃ t ∈ T, G[i]? = some (some (.fz (.opq (fv mg t.x)))) ∧ dCall n t.F ta G Q
end
end
end DL
namespace DL
open PySem PySem.Spec L2
section
variable {X : Cx}
def dRevL (te : DTE) : DTE := fun G Q => te G fun G1 v => rdW G1 v fun d => match d with | .lst l => Q G1 (.t (.ls l.reverse)) | _ => False
end
end DL
namespace DL
open PySem PySem.Spec L2
section
variable {X : Cx} {name : Str} {id : String} {o b : Expr} {apos cpos : Pos} {pb : Bool} {tB : DTE} {k : D2}
def isLst (d : D) : Prop := match d with | .lst _ => True | _ => False
def dRdV (k : D2) (i : Nat) (tb : DTE) : DTE := fun G Q => (∃ t, G[i]? = some (some t) ∧ rdT t isLst) ∧ tb G fun G1 vb => rdW G1 vb fun y => match G1[i]? with
  | some (some t) => rdT t fun x => (isLst x ∧ k x y fun r => Q G1 (.t r))
  | _ => False
end
end DL
namespace DL
open PySem PySem.Spec L2
def flatTs : List T → Option (List D)
  | [] => some []
  | .fz x :: r => (flatTs r).map (x :: ·)
  | .ls l :: r => (flatTs r).map (.lst l :: ·)
  | _ :: _ => none
theorem flat_owns {K : PySem.W.Frag} {h H h' : Hp} (s : Same h h') : ∀ {ts : List T} {vs : List V} {fp : List Addr} {ds : List D}, Owns K h H ts vs fp → flatTs ts = some ds → (∀ a ∈ fp, h' a = H a) → Ats K h' ds vs ∧ ∀ a ∈ fp, ∃ us, H a = some (.lst us)
  | _, _, _, _, .nil, e, _ => by cases e; exact ⟨.nil, fun _ m => (by cases m)⟩
  | t :: ts, _, _, _, .cons o r, e, k => by
    cases o with
    | fz a =>
      simp only [flatTs, Option.map_eq_some_iff] at e
      obtain ⟨ds, ed, rfl⟩ := e
      obtain ⟨q1, q2⟩ := flat_owns s r ed fun a m => k a (by simp [m])
      exact ⟨.cons (a.mono s) q1, by simpa using q2⟩
    | @ls a _ us n b c =>
      simp only [flatTs, Option.map_eq_some_iff] at e
      obtain ⟨ds, ed, rfl⟩ := e
      obtain ⟨q1, q2⟩ := flat_owns s r ed fun a m => k a (by simp [m])
      refine ⟨.cons (.lst ((k a (by simp)).trans b) (c.mono s)) q1, fun x m => ?_⟩
      simp only [List.cons_append, List.nil_append, List.mem_cons] at m
      rcases m with rfl | m
      · exact ⟨us, b⟩
      · exact q2 x m
    | dk _ _ _ => simp [flatTs] at e
    | dt _ _ _ => simp [flatTs] at e
    | ll _ _ _ => simp [flatTs] at e
    | dm _ _ _ => simp [flatTs] at e
    | ins _ _ _ _ _ => simp [flatTs] at e
    | tu _ _ => simp [flatTs] at e
def dCallB (n : Nat) (F : FS) (ta : DTA) : DTE := fun G Q => ta G fun G1 as => as.length = n ∧ match lendE G1 as with
  | some p => (match flatTs p.1 with | some ds => F (ds.map .fz) fun _ t => ∃ b, t = .fz (.bl b) ∧ Q G1 (.t (.fz (.bl b))) | none => False)
  | none => False
section
variable {X : Cx} {k j n : Nat} {x : Str} {F : FS} {p pos : Pos} {e : Expr} {es : List Expr} {ta : DTA} {pa : Bool}
theorem de_callB (f : Fn X.prog X.w X.K X.mg X.base k x n 0 F) (hgd : X.A.guards = some []) (hr : Room j X.A) (hk : k ≤ j) (hg : Gl X x) (ha : DA X pa (e :: es) ta)
    (hdb : (x == ("__debug__" : Str)) = false := by decide) (he : starEach (e :: es) X.env = (false, eval e X.env) :: starEach es X.env := by rfl) (hpl : (backTo pos (starEach es X.env)).any (·.1) = false := by rfl) :
    DE X false (.Call (.Name x p) (e :: es) [] pos) (dCallB n F ta) := by
  refine pe_imp (pe_g f hgd hr hk hg ha hdb he hpl) fun σ H Q ⟨h, G, fp, Q', S, w, c⟩ => ?_
  refine ⟨h, G, fp, _, S, w, fun vs H1 ⟨h1, G1, f1, as, S1, av, e1, p1, hl, w1⟩ => ?_⟩
  show spOf X.K n 0 F (vs ++ []) H1 Q C8.E0
  rw [List.append_nil]
  split at w1
  · rename_i pr ep
    obtain ⟨ts, Gr⟩ := pr
    split at w1
    · rename_i ds ed
      obtain ⟨fa, fr, oa, or, pm⟩ := lend_ok av S1.env ep
      have th := oa.there
      have hs : Same h1 (froz h1 H1 fa) := froz_same fun a m => (th a m).1
      obtain ⟨ad, li⟩ := flat_owns hs oa ed fun a m => froz_in m
      have sbp : Sub (froz h1 H1 fa) H1 := froz_sub S1.sub fun a m => (th a m).2
      refine ⟨by rw [← av.length]; exact hl, froz h1 H1 fa, ds.map .fz, [], _, sbp, ad.owns, .nil, w1, fun v H' h' outs t fo fv sb oo ot nd ex q => c v H' ?_⟩
      obtain ⟨b, rfl, q⟩ := q
      have inf : ∀ a, a ∈ f1 ↔ a ∈ fa ∨ a ∈ fr := fun a => by rw [← pm.mem_iff, List.mem_append]
      have out : ∀ a o, H1 a = some o → a ∉ fa → (∃ u, h' a = some u) → isDic o = true → ∃ u, h1 a = some u := fun a o eo na ⟨u, eu⟩ hd => by
        rcases ex.hn a u eu with z | z | z
        · rw [froz_out na] at z; exact ⟨u, z⟩
        · cases z
        · rcases z with z | ⟨us, z⟩
          · rw [eo] at z; cases z
          · rw [eo] at z; cases z; cases hd
      have keep : ∀ a ∈ f1, H' a = H1 a := fun a m => by
        obtain ⟨n1, o, eo⟩ := S1.env.there a m
        rw [eo]
        rcases ex.fr a o (by simp) eo with z | ⟨hd, _, u⟩
        · exact z
        · by_cases ma : a ∈ fa
          · obtain ⟨us, eu⟩ := li a ma
            rw [eo] at eu; cases eu; cases hd
          · obtain ⟨u, eu⟩ := out a o eo ma u hd
            rw [n1] at eu; cases eu
      have sbn : Sub h1 H' := fun a o eo => sb a o (ex.gh a o (hs a o eo))
      have ext : Ext h1 H1 f1 h1 H' f1 := ⟨Same.refl _, fun a o na eo => by
        rcases ex.fr a o (by simp) eo with z | ⟨hd, z, u⟩
        · exact .inl z
        · exact .inr ⟨hd, z, out a o eo (fun m => na ((inf a).mpr (.inl m))) u hd⟩, fun a m => .inl m, fun a o eo => .inl eo⟩
      have ev : v = .bl b := by cases ot with | fz a => cases a; rfl
      subst ev
      exact ⟨h1, G1, f1, .t (.fz (.bl b)), [], ⟨⟨sbn, S1.env.move (Same.refl _) keep (fun a m => (S1.env.there a m).1), S1.nd⟩, .t (.fz .bl), by simpa using S1.nd, by simpa using e1.trans ext, fun z => by cases z⟩, q⟩
    · exact w1.elim
  · exact w1.elim
end
end DL
namespace DL
open PySem PySem.Spec L2
/-- x before y -/
def lexI : List Int → List Int → Bool
  | [], [] => false
  | [], _ :: _ => true
  | _ :: _, [] => false
  | a :: r, b :: t => if a = b then lexI r t else decide (a < b)
theorem lexI_asymm : ∀ x y : List Int, lexI x y = true → lexI y x = false
  | [], [], h => by cases h
  | [], _ :: _, _ => rfl
  | _ :: _, [], h => by cases h
  | a :: r, b :: t, h => by
    unfold lexI at h ⊢
    by_cases e : a = b
    · rw [if_pos e] at h; rw [if_pos e.symm]; exact lexI_asymm r t h
    · rw [if_neg e, decide_eq_true_eq] at h; rw [if_neg (fun z => e z.symm), decide_eq_false_iff_not]; omega
theorem lexI_tr : ∀ x y z : List Int, lexI x y = false → lexI y z = false → lexI x z = false
  | [], [], z, _, h => h
  | [], _ :: _, _, h, _ => by cases h
  | _ :: _, _, [], _, _ => rfl
  | _ :: _, [], _ :: _, _, h => by cases h
  | a :: r, b :: t, c :: u, h1, h2 => by
    unfold lexI at h1 h2 ⊢
    by_cases e1 : a = b
    · rw [if_pos e1] at h1
      by_cases e2 : b = c
      · rw [if_pos e2] at h2; rw [if_pos (e1.trans e2)]; exact lexI_tr r t u h1 h2
      · rw [if_neg e2] at h2; rw [if_neg (fun z => e2 (e1.symm.trans z)), e1]; exact h2
    · rw [if_neg e1, decide_eq_false_iff_not] at h1
      by_cases e2 : b = c
      · rw [if_neg (fun z => e1 (z.trans e2.symm)), decide_eq_false_iff_not]; omega
      · rw [if_neg e2, decide_eq_false_iff_not] at h2
        rw [if_neg (by omega), decide_eq_false_iff_not]; omega
theorem lexI_eq : ∀ x y : List Int, lexI x y = false → lexI y x = false → x = y
  | [], [], _, _ => rfl
  | [], _ :: _, h, _ => by cases h
  | _ :: _, [], _, h => by cases h
  | a :: r, b :: t, h1, h2 => by
    unfold lexI at h1 h2
    by_cases e : a = b
    · rw [if_pos e] at h1; rw [if_pos e.symm] at h2; rw [e, lexI_eq r t h1 h2]
    · rw [if_neg e, decide_eq_false_iff_not] at h1; rw [if_neg (fun z => e z.symm), decide_eq_false_iff_not] at h2; omega
open PyProof.Rows in
theorem lex_kat {prog : Program} {w : World} {A : Around} {s : Shared} : ∀ {xs ys : List Value} {ns ms : List Int} (i : Nat), IntsAre xs ns → IntsAre ys ms →
    PySem.W.KatLex prog w A true (decide (xs.length < ys.length)) (fun r s' => s' = s ∧ r = lexI ns ms) (xs.zip ys) i s
  | _, _, _, _, _, .nil, .nil => PySem.W.kat_nil ⟨rfl, rfl⟩
  | _, _, _, _, _, .nil, .cons _ _ _ => PySem.W.kat_nil ⟨rfl, rfl⟩
  | _, _, _, _, _, .cons _ _ _, .nil => PySem.W.kat_nil ⟨rfl, rfl⟩
  | _, _, _, _, i, .cons (vs := xs) (ns := ns) n t h1, .cons (vs := ys) (ns := ms) m t' h2 => by
    refine PySem.W.kat_cons (SeqAt.EqAt.int_int n t m t' prog w _ _ ?_)
    refine PySem.W.kat_go (fun e1 => ?_) (fun e1 => ?_)
    · have ex : n = m := by simpa using e1
      refine PySem.W.kat_yes ?_
      have ih := lex_kat (prog := prog) (w := w) (A := A) (s := s) (i + 1) h1 h2
      have e2 : lexI (n :: ns) (m :: ms) = lexI ns ms := by simp [lexI, ex]
      have e3 : decide ((Value.int n t :: xs).length < (Value.int m t' :: ys).length) = decide (xs.length < ys.length) := by simp
      rw [e2, e3]; exact ih
    · have ex : ¬ n = m := by simpa using e1
      have e2 : lexI (n :: ns) (m :: ms) = decide (n < m) := by simp [lexI, ex]
      rw [e2]
      refine PySem.W.kat_no ?_
      cases i with
      | zero => exact oneLt_int ⟨rfl, rfl⟩
      | succ i => exact PySem.W.kat_one _ _ (PyProof.Rows.lt_int ⟨rfl, rfl⟩)
open PyProof.Rows in
theorem firsts_n {h : Heap} : ∀ {vs : List Value} {k : Value → List Int}, (∀ v ∈ vs, TS.TupInts h v (k v) ∧ k v ≠ []) → ∃ fs, PySem.W.KatTups h vs fs ∧ fs.length = vs.length ∧ ∀ f, f ∈ fs → ∃ n t, f = Value.int n t
  | [], _, _ => ⟨[], PySem.W.KatTups.nil, rfl, fun f hf => by simp at hf⟩
  | v :: vs, k, x => by
    obtain ⟨fs, kk, hl, hi⟩ := firsts_n (vs := vs) (k := k) fun u hu => x u (List.mem_cons_of_mem _ hu)
    obtain ⟨⟨a, xs, rfl, ⟨o, ho, hc, n, hdt⟩, i⟩, hn⟩ := x v (List.mem_cons_self ..)
    obtain ⟨y, ys, e⟩ : ∃ y ys, xs.toList = y :: ys := by
      cases q : xs.toList with
      | nil =>
        rw [q] at i
        have l := i.length
        exact absurd (List.length_eq_zero_iff.mp (by rw [← l]; rfl)) hn
      | cons y ys => exact ⟨y, ys, rfl⟩
    obtain ⟨m, t, hy⟩ := i.all y (by rw [e]; exact List.mem_cons_self ..)
    refine ⟨y :: fs, PySem.W.KatTups.cons ho hc hdt ?_ kk, by simp [hl], ?_⟩
    · have z := congrArg (fun l : List Value => l[0]?) e
      simpa using z
    · intro f hf
      rcases List.mem_cons.mp hf with rfl | hf
      · exact ⟨m, t, hy⟩
      · exact hi f hf
theorem swo_I {α : Type} (k : α → List Int) : SrtO.Swo fun v u => lexI (k v) (k u) := ⟨fun x y h => lexI_asymm _ _ h, fun x y z h1 h2 => lexI_tr _ _ _ h2 h1⟩
open PyProof.Rows in
theorem tups_sortableO {prog : Program} {w : World} {A : Around} {s : Shared} {a : Addr} {vs : List Value} {k : Value → List Int} (h0 : 0 < vs.length) (hp : ∀ v ∈ vs, TS.TupInts s.heap v (k v) ∧ k v ≠ []) (ha : ∀ o, s.heap.get? a = some o → o.cls ≠ .type "tuple") :
    SrtO.SortableO prog w A s a vs fun v u => lexI (k v) (k u) := by
  intro h' keep
  have hp' : ∀ v ∈ vs, TS.TupInts h' v (k v) ∧ k v ≠ [] := fun v hm => ⟨(hp v hm).1.keeps fun b o e c => keep b o (fun z => by subst z; exact ha o e c) e, (hp v hm).2⟩
  obtain ⟨fs, h1, h2, h3⟩ := firsts_n hp'
  refine ⟨tuples' true, fun Q E hq => ?_, fun p q hm hm' => ?_⟩
  · refine PySem.W.kat_kind (T := .type "int") h1 (by omega) (fun f hm => ?_) (by rfl) ?_
    · obtain ⟨x, t, rfl⟩ := h3 f hm
      exact PySem.W.Looks.now
    · have e : (Value.type "int" != Value.type "tuple") = true := by first | decide +kernel | rfl | decide
      rw [e]
      exact hq
  · obtain ⟨⟨a1, xs, e1, ⟨o1, ho1, _, n1, hd1⟩, i1⟩, _⟩ := hp' _ hm
    obtain ⟨⟨a2, ys, e2, ⟨o2, ho2, _, n2, hd2⟩, i2⟩, _⟩ := hp' _ hm'
    show wpAny (model prog w) A (keyLt' (tuples' true) p.1 q.1) (fun r s' => s' = { s with heap := h' } ∧ r = lexI (k p.1) (k q.1)) (fun _ _ => False) { s with heap := h' }
    generalize k p.1 = ns at i1 ⊢
    generalize k q.1 = ms at i2 ⊢
    rw [e1, e2]
    refine PySem.W.kat_lt (s := { s with heap := h' }) ho1 hd1 ho2 hd2 ?_
    have := lex_kat (prog := prog) (w := w) (A := A) (s := { s with heap := h' }) 0 i1 i2
    simpa using this
def rSortedN (K : PySem.W.Frag) : List V → Hp → VK → Prop := fun vs H Q => ∃ (a : Addr) (xs : List V) (k : V → List Int), vs = [V.ref a] ∧ SqL K H a xs ∧ (∀ x ∈ xs, ∃ t, x = V.ref t ∧ H t = some (.tup ((k x).map V.int))) ∧ (2 ≤ xs.length → ∀ x ∈ xs, k x ≠ []) ∧
  ∀ ys p, SrtO.Srtd (fun x y => lexI (k x) (k y)) ys → SrtO.Stb (fun x y => lexI (k x) (k y)) ys xs → H p = none → Q (.ref p) (upd H p (.lst ys))
section
variable {X : Cx}
open PyProof.Rows in
theorem cr_sortedN : CallR X (.builtin "sorted") (rSortedN X.K) := by
  intro pins s σ H vs us Q I r h
  obtain ⟨a, xs, k, rfl, hs, hx, hne, q⟩ := h
  obtain ⟨its, rv, hl, hz⟩ := I.list hs
  obtain ⟨u, rfl, ru⟩ := vals1 r
  obtain rfl : u = Value.ref a := ru
  obtain ⟨e1, e2⟩ := refs_back rv fun x m => by
    obtain ⟨t, e, _⟩ := hx x m
    exact ⟨t, e⟩
  refine SrtO.sorted_ord (ltv := fun v u => lexI (k (backV v)) (k (backV u))) (swo_I fun v => k (backV v)) hl.isList (by rw [← rv.length]; exact hz) (fun h2 h₁ ad had kk => ?_) fun out h1 h2 => ?_
  · refine tups_sortableO (k := fun v => k (backV v)) (s := { s with heap := h₁ }) (by omega) (fun v hv => ?_) fun o e => ?_
    · obtain ⟨t, rfl⟩ := e2 v hv
      have hm : V.ref t ∈ xs := by rw [e1]; exact List.mem_map.mpr ⟨_, hv, rfl⟩
      obtain ⟨t', e, ht⟩ := hx _ hm
      cases e
      refine ⟨?_, hne (by rw [rv.length]; exact h2) _ hm⟩
      obtain ⟨its2, rv2, hT, _⟩ := I.tuple (SqT.of ht)
      have ti : TS.TupInts s.heap (.ref t) (k (V.ref t)) := ⟨t, its2.toArray, rfl, hT, by simpa using rv2.ints⟩
      exact ti.keeps fun b o e _ => (kk b o e).2
    · have e' : some o = some (seqObj "list" its.toArray 0) := e.symm.trans had
      cases e'
      intro c
      exact absurd (Value.type.inj c) (by decide)
  · have h3 : ∀ u ∈ out, ∃ a, u = Value.ref a := fun u hu => e2 u (h2.perm.mem_iff.mp hu)
    obtain ⟨n, hn⟩ := sortedAll_at s.heap its out.toArray
    have hb : SrtO.Stb (fun x y => lexI (k x) (k y)) (out.map backV) xs := by
      rw [e1]
      exact SrtO.Stb.map (swo_I k) backV h2
    refine ⟨.ref _, upd H (s.heap.objs.size + 1) (.lst (out.map backV)), I.laid (t' := s.toks) (fun _ _ => sortedAll_old) (Nat.le_succ _) ⟨?_, out, n, vals_back h3, hn⟩, rfl, q _ _ (SrtO.srtd_map h1) hb (I.hok.fresh (Nat.le_succ _))⟩
    rw [hb.len]
    exact hz
end
def tupI (ns : List Int) : D := .tup (ns.map .int)
theorem ats_tupsI {K : PySem.W.Frag} {h : Hp} : ∀ {ps : List (List Int)} {vs : List V}, Ats K h (ps.map tupI) vs → ∃ ts : List (Addr × List Int), vs = ts.map (fun t => V.ref t.1) ∧ ps = ts.map (·.2) ∧ ∀ t ∈ ts, h t.1 = some (.tup (t.2.map V.int))
  | [], _, .nil => ⟨[], rfl, rfl, fun _ m => nomatch m⟩
  | p :: r, _, .cons a ar => by
    obtain ⟨ts, e1, e2, e3⟩ := ats_tupsI ar
    cases a with
    | @tup a _ vs e r =>
      rw [ats_ints r] at e
      exact ⟨(a, p) :: ts, by rw [e1]; rfl, by rw [e2]; rfl, fun t m => by
        rcases List.mem_cons.mp m with rfl | m
        · exact e
        · exact e3 t m⟩
theorem tupsI_ats {K : PySem.W.Frag} {h : Hp} : ∀ {ts : List (Addr × List Int)}, (∀ t ∈ ts, h t.1 = some (.tup (t.2.map V.int))) → Ats K h ((ts.map (·.2)).map tupI) (ts.map fun t => V.ref t.1)
  | [], _ => .nil
  | t :: r, e => .cons (.tup (e t (by simp)) ints_ats) (tupsI_ats fun t m => e t (by simp [m]))
theorem key_ofI (ts : List (Addr × List Int)) (hs : ∀ t ∈ ts, ∀ u ∈ ts, t.1 = u.1 → t.2 = u.2) : ∃ k : V → List Int, ∀ t ∈ ts, k (V.ref t.1) = t.2 := by
  refine ⟨fun v => match v with | .ref a => ((ts.find? fun t => t.1 == a).map (·.2)).getD [] | _ => [], fun t m => ?_⟩
  show ((ts.find? fun u => u.1 == t.1).map (·.2)).getD [] = t.2
  cases q : ts.find? fun u => u.1 == t.1 with
  | none => exact absurd (List.find?_eq_none.mp q t m) (by simp)
  | some u =>
    have h1 := List.find?_some q
    have h2 := List.mem_of_find?_eq_some q
    exact hs u h2 t m (by simpa using h1)
theorem vint_inj {a b : List Int} (e : a.map V.int = b.map V.int) : a = b := by
  induction a generalizing b with
  | nil => cases b <;> simp at e ⊢
  | cons x r ih =>
    cases b with
    | nil => simp at e
    | cons y t =>
      simp only [List.map_cons, List.cons.injEq, V.int.injEq] at e
      rw [e.1, ih e.2]
def sortedND : DN := fun ds R => match ds with
  | [.lst l] => ∃ nss : List (List Int), l = nss.map tupI ∧ (2 ≤ nss.length → ∀ ns ∈ nss, ns ≠ []) ∧ ∀ nss' : List (List Int), nss'.Perm nss → nss'.Pairwise (fun a b => lexI b a = false) → R (.ls (nss'.map tupI))
  | _ => False
theorem sortedN_ok {X : Cx} : CaK X (.builtin "sorted") sortedND := by
  refine ca_of cr_sortedN fun xs H Q ⟨h, ds, R, sb, a, w, c⟩ => ?_
  unfold sortedND at w
  split at w
  · obtain ⟨nss, rfl, ne, w⟩ := w
    obtain ⟨v, rfl, a1⟩ := a.one
    obtain ⟨p, vs, rfl, r, al⟩ := a1.lst sb
    obtain ⟨ts, rfl, rfl, et⟩ := ats_tupsI al
    have eH : ∀ t ∈ ts, H t.1 = some (.tup (t.2.map V.int)) := fun t m => sb.tup (et t m)
    obtain ⟨k, hk⟩ := key_ofI ts fun t m u m2 e => by
      have e1 := et t m
      rw [e, et u m2] at e1
      simp only [Option.some.injEq, HO.tup.injEq] at e1
      exact (vint_inj e1).symm
    refine ⟨p, _, k, rfl, SqL.of r, fun x m => ?_, fun h2 x m => ?_, fun ys q srt stb nq => ?_⟩
    · obtain ⟨t, mt, rfl⟩ := List.mem_map.mp m
      exact ⟨t.1, rfl, by rw [hk t mt]; exact eH t mt⟩
    · obtain ⟨t, mt, rfl⟩ := List.mem_map.mp m
      rw [hk t mt]
      exact ne (by simpa using h2) _ (List.mem_map.mpr ⟨t, mt, rfl⟩)
    · obtain ⟨ts', pt, rfl⟩ := perm_map_inv stb.perm
      have et' : ∀ t ∈ ts', h t.1 = some (.tup (t.2.map V.int)) := fun t m => et t (pt.mem_iff.mp m)
      refine c _ _ (.list sb nq (tupsI_ats et') (w _ (pt.map _) ?_))
      refine List.pairwise_map.mpr ((List.pairwise_map.mp srt).imp_of_mem fun {t u} m1 m2 hh => ?_)
      have hh2 : lexI (k (V.ref u.1)) (k (V.ref t.1)) = false := hh
      rwa [hk t (pt.mem_iff.mp m1), hk u (pt.mem_iff.mp m2)] at hh2
  · exact w.elim
end DL
namespace DL
open PySem PySem.Spec L2
section
variable {X : Cx}
def dLenSet (te : DTE) : DTE := fun G Q => te G fun G1 v => rdW G1 v fun d => match d with
  | .tup l => ∃ ns : List Int, l = ns.map .int ∧ ns.length ≤ 4000 ∧ ∀ ks : List Int, ks.Nodup → (∀ k, k ∈ ks ↔ k ∈ ns) → Q G1 (.t (.fz (.int (ks.length : Nat))))
  | _ => False
end
end DL
namespace DL
open PySem PySem.Spec L2
def clsOf (mg : Str → Option Value) (x : Str) : Addr := match mg x with | some (.ref a) => a | _ => 0
theorem clsOf_eq {mg : Str → Option Value} {x : Str} {C : Addr} (h : mg x = some (.ref C)) : clsOf mg x = C := by unfold clsOf; rw [h]
def putFl : List (Str × T) → Str → T → List (Str × T)
  | [], f, t => [(f, t)]
  | (g, x) :: r, f, t => if g = f then (g, t) :: r else (g, x) :: putFl r f t
theorem look_lookup {α : Type} : ∀ (l : List (Str × α)) (f : Str), l.lookup f = look l f
  | [], _ => rfl
  | (k, v) :: r, f => by
    by_cases h : k = f
    · subst h; simp [List.lookup, look]
    · have hb : (f == k) = false := beq_eq_false_iff_ne.mpr (Ne.symm h)
      simp only [List.lookup, hb, look, if_neg h]
      exact look_lookup r f
section
variable {K : PySem.W.Frag} {h H : Hp}
theorem OwnF.has {f : Str} {t : T} : ∀ {ts : List (Str × T)} {vs : List (Str × V)} {fp : List Addr}, OwnF K h H ts vs fp → look ts f = some t → ∃ v, look vs f = some v
  | _, _, _, .nil, e => by cases e
  | _, _, _, .cons (k := k) (v := v) a r, e => by
    simp only [look] at e ⊢
    by_cases hk : k = f
    · rw [if_pos hk]; exact ⟨v, rfl⟩
    · rw [if_neg hk] at e ⊢; exact OwnF.has r e
theorem OwnF.hasno {f : Str} : ∀ {ts : List (Str × T)} {vs : List (Str × V)} {fp : List Addr}, OwnF K h H ts vs fp → look ts f = none → look vs f = none
  | _, _, _, .nil, e => rfl
  | _, _, _, .cons (k := k) (v := v) a r, e => by
    simp only [look] at e ⊢
    by_cases hk : k = f
    · rw [if_pos hk] at e; cases e
    · rw [if_neg hk] at e ⊢; exact OwnF.hasno r e
theorem OwnF.len : ∀ {ts : List (Str × T)} {vs : List (Str × V)} {fp : List Addr}, OwnF K h H ts vs fp → ts.length = vs.length
  | _, _, _, .nil => rfl
  | _, _, _, .cons _ r => by simp [OwnF.len r]
theorem OwnF.put {f : Str} {t : T} {v : V} {fc : List Addr} : ∀ {ts : List (Str × T)} {vs : List (Str × V)} {fp : List Addr}, OwnF K h H ts vs fp → Own K h H t v fc → (fp ++ fc).Nodup →
    ∃ fp', OwnF K h H (putFl ts f t) (putF f v vs) fp' ∧ fp'.Nodup ∧ ∀ a ∈ fp', a ∈ fp ++ fc
  | _, _, _, .nil, o, nd => ⟨fc ++ [], .cons o .nil, by simpa using nd, fun a m => by simpa using m⟩
  | _, _, _, .cons (k := k) (f1 := f1) (f2 := f2) a r, o, nd => by
    rw [List.append_assoc] at nd
    obtain ⟨n1, n2, d1⟩ := List.nodup_append.mp nd
    by_cases hk : k = f
    · simp only [putFl, putF, if_pos hk]
      refine ⟨fc ++ f2, .cons o r, (List.perm_append_comm).nodup_iff.mp n2, fun x m => ?_⟩
      rcases List.mem_append.mp m with m | m <;> simp [m]
    · simp only [putFl, putF, if_neg hk]
      obtain ⟨fp', o', n', s'⟩ := OwnF.put (f := f) r o n2
      exact ⟨f1 ++ fp', .cons a o', List.nodup_append.mpr ⟨n1, n', fun x hx y hy => d1 x hx y (s' y hy)⟩, fun x m => by
        rcases List.mem_append.mp m with m | m
        · simp [m]
        · have := s' x m; simp at this ⊢; rcases this with q | q <;> simp [q]⟩
end
theorem nodup_repl {α : Type} {A X X' B F : List α} (nd : (A ++ X ++ B ++ F).Nodup) (n' : X'.Nodup) (s : ∀ x ∈ X', x ∈ X ∨ x ∈ F) : (A ++ X' ++ B).Nodup := by
  obtain ⟨h1, hF, d1⟩ := List.nodup_append.mp nd
  obtain ⟨h2, hB, d2⟩ := List.nodup_append.mp h1
  obtain ⟨hA, hX, d3⟩ := List.nodup_append.mp h2
  refine List.nodup_append.mpr ⟨List.nodup_append.mpr ⟨hA, n', fun x hx y hy e => ?_⟩, hB, fun x hx y hy e => ?_⟩
  · subst e
    rcases s x hy with q | q
    · exact d3 x hx x q rfl
    · exact d1 x (by simp [hx]) x q rfl
  · subst e
    rcases List.mem_append.mp hx with hx | hx
    · exact d2 x (by simp [hx]) x hy rfl
    · rcases s x hx with q | q
      · exact d2 x (by simp [q]) x hy rfl
      · exact d1 x (by simp [hy]) x q rfl
/-- a field of the instance in slot i takes a tree -/
theorem fset_ok {K : PySem.W.Frag} {h H : Hp} {G : En} {σ : L2.St} {fp fv : List Addr} {C : Addr} {i : Nat} {f : Str} {t : T} {v : V} {l : List (Str × T)} (S : Stt K h H G σ fp) (o : Own K h H t v fv) (nd : (fp ++ fv).Nodup) (eg : G[i]? = some (some (.ins C l))) :
    ∃ a dx m, σ[i]? = some (some (.ref a)) ∧ H a = some (.ins C dx m) ∧ l.length = m.length ∧ ∃ fp', Stt K h (upd H a (.ins C dx (putF f v m))) (G.set i (some (.ins C (putFl l f t)))) σ fp' ∧ Ext h H (fp ++ fv) h (upd H a (.ins C dx (putF f v m))) fp' := by
  obtain ⟨v0, ev⟩ := S.env.has eg
  obtain ⟨g1, gc, g2, ef, oc, put, _⟩ := S.env.slot eg ev
  subst ef
  cases oc with
  | @ins a dx _ _ m fl n n' b b' c =>
    have nd0 := nd
    rw [List.append_assoc] at nd
    obtain ⟨hh1, _, dd1⟩ := List.nodup_append.mp nd0
    obtain ⟨hh2, _, dd2⟩ := List.nodup_append.mp hh1
    obtain ⟨_, hX, dd3⟩ := List.nodup_append.mp hh2
    obtain ⟨na, hX2⟩ := List.nodup_cons.mp hX
    obtain ⟨nx, hX3⟩ := List.nodup_cons.mp hX2
    have hF : fv.Nodup := (List.nodup_append.mp nd0).2.1
    have ndl : (fl ++ fv).Nodup := List.nodup_append.mpr ⟨hX3, hF, fun x hx y hy => dd1 x (by simp [hx]) y hy⟩
    obtain ⟨fl', c', nd', sb⟩ := c.put (f := f) o ndl
    have na' : a ∉ fl' := fun z => by
      rcases List.mem_append.mp (sb a z) with q | q
      · exact na (by simp [q])
      · exact dd1 a (by simp) a q rfl
    have nx' : dx ∉ fl' := fun z => by
      rcases List.mem_append.mp (sb dx z) with q | q
      · exact nx q
      · exact dd1 dx (by simp) dx q rfl
    have adx : dx ≠ a := fun z => na (by simp [z])
    have nX' : (a :: dx :: fl').Nodup := List.nodup_cons.mpr ⟨by simp only [List.mem_cons, not_or]; exact ⟨fun z => adx z.symm, na'⟩, List.nodup_cons.mpr ⟨nx', nd'⟩⟩
    have sX : ∀ x ∈ a :: dx :: fl', x ∈ a :: dx :: fl ∨ x ∈ fv := fun x mx => by
      rcases List.mem_cons.mp mx with rfl | mx
      · exact .inl (by simp)
      · rcases List.mem_cons.mp mx with rfl | mx
        · exact .inl (by simp)
        · rcases List.mem_append.mp (sb x mx) with q | q
          · exact .inl (by simp [q])
          · exact .inr q
    have ndn := nodup_repl nd0 nX' sX
    refine ⟨a, dx, m, ev, b, c.len, g1 ++ (a :: dx :: fl') ++ g2, ⟨fun x u e => ?_, ?_, ndn⟩, ⟨Same.refl h, fun x u mx e => .inl ?_, fun x mx => .inl ?_, fun x u e => .inl e⟩⟩
    · rw [upd_ne (fun z => by subst z; rw [n] at e; cases e)]; exact S.sub x u e
    · have oth : ∀ x ∈ g1 ++ g2, upd H a (.ins C dx (putF f v m)) x = H x ∧ h x = none := fun x mx => by
        refine ⟨upd_ne fun z => ?_, (S.env.there x (by simp at mx ⊢; rcases mx with q | q <;> simp [q])).1⟩
        subst z
        rcases List.mem_append.mp mx with q | q
        · exact dd3 x q x (by simp) rfl
        · exact dd2 x (by simp) x q rfl
      refine put h _ _ _ (Same.refl h) oth (.ins n n' upd_same (by rw [upd_ne adx]; exact b') (c'.move (Same.refl h) (fun x mx => upd_ne fun z => na' (z ▸ mx)) fun x mx => ?_))
      exact (c'.there x mx).1
    · rw [upd_ne (fun z => mx (by simp [z]))]; exact e
    · simp only [List.append_assoc, List.mem_append] at mx ⊢
      rcases mx with q | q | q
      · exact .inl q
      · rcases sX x q with r | r
        · exact .inr (.inl r)
        · exact .inr (.inr (.inr r))
      · exact .inr (.inr (.inl q))
def dFld (C : Addr) (i : Nat) (f : Str) : DTE := fun G Q => match G[i]? with
  | some (some (.ins C' l)) => C' = C ∧ (match look l f with
    | some (.fz d) => Q G (.t (.fz d))
    | some _ => Q G (.pk i (some (.fd f)))
    | none => False)
  | _ => False
def fputW (C : Addr) (i : Nat) (f : Str) (k : En → Prop) (G : En) (t : T) : Prop := match G[i]? with
  | some (some (.ins C' l)) => C' = C ∧ l.length < 900 ∧ k (G.set i (some (.ins C (putFl l f t))))
  | _ => False
/-- a field takes a thing of its own, else what is frozen -/
def dFPut (C : Addr) (i : Nat) (f : Str) (te : DTE) : DTS := fun Ds G => te G fun G1 v => match v with
  | .t t => fputW C i f Ds.nx G1 t
  | .pk j p => fzW G1 (.pk j p) fun G2 d => fputW C i f Ds.nx G2 (.fz d)
/-- .. frozen always -/
def dFPutZ (C : Addr) (i : Nat) (f : Str) (te : DTE) : DTS := fun Ds G => te G fun G1 v => fzW G1 v fun G2 d => fputW C i f Ds.nx G2 (.fz d)
structure Fld (K : PySem.W.Frag) (mg : Str → Option Value) (x f : Str) : Prop where
  ex : ∃ C, mg x = some (.ref C) ∧ Cls K C ∧ NoAttr K C f
section
variable {X : Cx} {pa : Bool} {m : Nat} {e value : Expr} {te : DTE} {pos pos' : Pos} {i : Nat} {x f : Str}
theorem de_fld (F : Fld X.K X.mg x f) (p : PE X e (tVar i)) (hb : attributeBase e f X.env (eval e X.env) = eval e X.env := by rfl) : DE X true (.Attribute e f pos) (dFld (clsOf X.mg x) i f) := by
  obtain ⟨C, hm, c, n⟩ := F.ex
  rw [clsOf_eq hm]
  refine pe_imp (pe_fld p hb) fun σ H Q ⟨h, G, fp, Q', S, w, k⟩ => ?_
  unfold dFld at w
  split at w
  · rename_i C' l eg
    obtain ⟨rfl, w⟩ := w
    obtain ⟨v, ev⟩ := S.env.has eg
    obtain ⟨f1, fc, f2, ef, o, _⟩ := S.env.slot eg ev
    cases o with
    | @ins a dx _ _ m fl n1 n2 b b' cf =>
      have key : ∀ t, look l f = some t → ∃ u, look m f = some u := fun t et => cf.has et
      split at w
      · rename_i d ed
        obtain ⟨u, eu⟩ := key _ ed
        obtain ⟨q1, qc, q2, _, oz, _⟩ := cf.at ed eu
        cases oz with
        | fz ad => exact ⟨_, ev, a, _, dx, m, u, rfl, b, c, n, by rw [look_lookup]; exact eu, k _ _ ⟨h, G, fp, _, [], res_const S ad, w⟩⟩
      · rename_i t _ et
        obtain ⟨u, eu⟩ := key _ et
        refine ⟨_, ev, a, _, dx, m, u, rfl, b, c, n, by rw [look_lookup]; exact eu, k _ _ ⟨h, G, fp, _, [], ⟨S, .pk (t := t) ⟨_, ev, (⟨a, rfl, _, dx, m, b, eu⟩ : Phys H (.fd f) _ _)⟩ ?_, by simpa using S.nd, by simpa using Ext.refl h H fp, fun _ => ⟨rfl, rfl, fun _ _ => rfl⟩⟩, w⟩⟩
        simp [atE, eg, T.kid, et]
      · exact w.elim
  · exact w.elim
theorem fput_end {K : PySem.W.Frag} {C : Addr} {σ : L2.St} {h H h1 H1 : Hp} {G1 : En} {fp f1 fv : List Addr} {t : T} {v : V} {Ds : DEnds} {D : Ends} (hN : Cls K C) (hA : NoAttr K C f) (S : Stt K h1 H1 G1 σ f1) (o : Own K h1 H1 t v fv) (nd : (f1 ++ fv).Nodup) (ex : Ext h H fp h1 H1 (f1 ++ fv))
    (w : fputW C i f Ds.nx G1 t) (kn : ∀ σ' H', NPost K (List.take m) σ h H fp Ds.nx σ' H' → D.nx σ' H') :
    ∃ v0, σ[i]? = some (some v0) ∧ ∃ a C dx fs, v0 = .ref a ∧ H1 a = some (.ins C dx fs) ∧ Cls K C ∧ NoAttr K C f ∧ fs.length < 1000 ∧ D.nx σ (upd H1 a (.ins C dx (putF f v fs))) := by
  unfold fputW at w
  split at w
  · rename_i C' l eg
    obtain ⟨rfl, hl, w⟩ := w
    obtain ⟨a, dx, fs, ev, ea, len, fp', S', ex'⟩ := fset_ok (f := f) S o nd eg
    exact ⟨_, ev, a, _, dx, fs, rfl, ea, hN, hA, by omega, kn _ _ ⟨h1, _, fp', S', ex.trans ex', rfl, w⟩⟩
  · exact w.elim
theorem ds_fput {o : Expr} (F : Fld X.K X.mg x f) (p : PE X o (tVar i)) (he : DE X pa value te) (hs : swapsWith value (some (.Attribute o f pos')) pos.line X.env = pure false := by rfl) : DS X m (.Assign [.Attribute o f pos'] value pos) (dFPut (clsOf X.mg x) i f te) := by
  obtain ⟨C, hm, c, n⟩ := F.ex
  rw [clsOf_eq hm]
  refine ps_imp (ps_fld p he hs) fun D σ H ⟨h, G, fp, Ds, S, w, kn, kr, kx⟩ => ?_
  refine ⟨h, G, fp, _, S, w, fun v H1 ⟨h1, G1, f1, va, fva, r1, w1⟩ => ?_⟩
  cases va with
  | t t =>
    cases r1.ov with
    | t o => exact fput_end c n r1.st o r1.nd r1.ex w1 kn
  | pk j p =>
    have w1 : fzW G1 (.pk j p) (fun G2 d => fputW C i f Ds.nx G2 (.fz d)) := w1
    obtain ⟨h2, G2, f2, d, S2, a2, e2, q⟩ := r1.fz w1
    exact fput_end c n S2 (.fz a2) (by simpa using S2.nd) (by simpa using e2) q kn
theorem ds_fputZ {o : Expr} (F : Fld X.K X.mg x f) (p : PE X o (tVar i)) (he : DE X pa value te) (hs : swapsWith value (some (.Attribute o f pos')) pos.line X.env = pure false := by rfl) : DS X m (.Assign [.Attribute o f pos'] value pos) (dFPutZ (clsOf X.mg x) i f te) := by
  obtain ⟨C, hm, c, n⟩ := F.ex
  rw [clsOf_eq hm]
  refine ps_imp (ps_fld p he hs) fun D σ H ⟨h, G, fp, Ds, S, w, kn, kr, kx⟩ => ?_
  refine ⟨h, G, fp, _, S, w, fun v H1 ⟨h1, G1, f1, va, fva, r1, w1⟩ => ?_⟩
  obtain ⟨h2, G2, f2, d, S2, a2, e2, q⟩ := r1.fz w1
  exact fput_end c n S2 (.fz a2) (by simpa using S2.nd) (by simpa using e2) q kn
end
def dRetN : DTS := fun Ds G => Ds.rt G (.t (.fz .non))
def Mth (P : Program) (w : World) (K : PySem.W.Frag) (mg : Str → Option Value) (base : Heap) (k : Nat) (x m : Str) (n : Nat) (F : FS) : Prop :=
  ∃ (C f : Addr) (fd : FuncData) (ps : List Str), mg x = some (.ref C) ∧ Cls K C ∧ Meth K C m f ∧ FnG P w K mg base k f fd ps (spOf K n 1 F) ∧ Binds K fd ps []
def Ini (P : Program) (w : World) (K : PySem.W.Frag) (mg : Str → Option Value) (base : Heap) (k : Nat) (x : Str) (n : Nat) (F : FS) : Prop :=
  ∃ (C f : Addr) (fd : FuncData) (ps : List Str), mg x = some (.ref C) ∧ Mk K C f ∧ FnG P w K mg base k f fd ps (spOf K n 1 F) ∧ Binds K fd ps []
def dMth (C : Addr) (i : Nat) (m : Str) (n : Nat) (F : FS) (ta : DTA) : DTE := fun G Q => (match G[i]? with | some (some (.ins C' l)) => C' = C ∧ look l m = none | _ => False) ∧ dCall n F (dALend i ta) G Q
def dMake (C : Addr) (n : Nat) (F : FS) (ta : DTA) : DTE := fun G Q => ta G fun G1 as => withD as fun ds => ds.length + 1 = n ∧ F (.ins C [] :: ds.map .fz) fun outs t => (match outs with
  | [some t1] => t = .fz .non ∧ Q G1 (.t t1)
  | _ => False)
section
variable {X : Cx} {k j n i : Nat} {x m : Str} {F : FS} {pa : Bool} {ta : DTA} {o e : Expr} {es : List Expr} {pos p apos : Pos}
theorem pe_methG {C f : Addr} {fd : FuncData} {ps : List Str} {sp : Sp} {tv : TE} {t : TA} {pl : Sem Bool} (he : PE X o tv) (c : Cls X.K C) (hm : Meth X.K C m f) (F : FnG X.prog X.w X.K X.mg X.base k f fd ps sp) (hgd : X.A.guards = some []) (hr : Room k X.A) (hb : Binds X.K fd ps []) (ha : PA X (e :: es) t)
    (hst : starEach (e :: es) X.env = (false, eval e X.env) :: starEach es X.env := by rfl) (hpl : (backTo pos (starEach es X.env)).any (·.1) = false := by rfl)
    (ht : eval (.Call (.Attribute o m apos) (e :: es) [] pos) X.env = (do
      let ov ← eval o X.env
      standAt apos.atName
      let (f, first) ← holding [ov] (getMethod ov m pl)
      callWith pos f first (backTo pos (starEach (e :: es) X.env)) (backToKw pos (keywordEach [] X.env))) := by rfl) :
    PE X (.Call (.Attribute o m apos) (e :: es) [] pos) (tMeth C m sp [] C8.E0 tv t) := by
  refine ⟨fun pins s σ H Q I h => ?_⟩
  refine PySem.W.methodCall_KW (pl := pl) (thn (he.run pins s σ H _ I h) fun u s1 ⟨x, H1, I1, rx, a, dx, fs, ex, ea, l, q⟩ => ?_) ht
  subst ex
  obtain rfl : u = Value.ref a := rx
  refine getmeth_ok I1 ea c hm l ?_
  refine PySem.W.callWith_K (first := [.ref a]) (h₀ := X.base) I.ok.mod.kin hm.kp (thn (ha.run pos pins s1 σ H1 _ I1 q) fun us s2 ⟨vs, H2, I2, r, q2⟩ => ⟨I2.kIn, ?_⟩) hst hpl
  have q2 : sp (.ref a :: (vs ++ [])) H2 Q C8.E0 := q2
  rw [List.append_nil] at q2
  exact runG (us := .ref a :: us) (vs := .ref a :: vs) F hgd hr hb I2 (.cons rfl r) q2
theorem pe_methG0 {C f : Addr} {fd : FuncData} {ps : List Str} {sp : Sp} {tv : TE} {pl : Sem Bool} (he : PE X o tv) (c : Cls X.K C) (hm : Meth X.K C m f) (F : FnG X.prog X.w X.K X.mg X.base k f fd ps sp) (hgd : X.A.guards = some []) (hr : Room k X.A) (hb : Binds X.K fd ps [])
    (ht : eval (.Call (.Attribute o m apos) [] [] pos) X.env = (do
      let ov ← eval o X.env
      standAt apos.atName
      let (f, first) ← holding [ov] (getMethod ov m pl)
      callWith pos f first (backTo pos (starEach [] X.env)) (backToKw pos (keywordEach [] X.env))) := by rfl) :
    PE X (.Call (.Attribute o m apos) [] [] pos) (tMeth C m sp [] C8.E0 tv tNil) := by
  refine ⟨fun pins s σ H Q I h => ?_⟩
  refine PySem.W.methodCall_KW (pl := pl) (thn (he.run pins s σ H _ I h) fun u s1 ⟨x, H1, I1, rx, a, dx, fs, ex, ea, l, q⟩ => ?_) ht
  subst ex
  obtain rfl : u = Value.ref a := rx
  refine getmeth_ok I1 ea c hm l ?_
  exact PySem.W.callWith_K0 (first := [.ref a]) I1.kIn hm.kp (runG (us := [.ref a]) (vs := [.ref a]) F hgd hr hb I1 (.cons rfl .nil) q)
theorem ins_slot {K : PySem.W.Frag} {h H : Hp} {G : En} {σ : L2.St} {fp : List Addr} {C : Addr} (S : Stt K h H G σ fp) (w : match G[i]? with | some (some (.ins C' l)) => C' = C ∧ look l m = none | _ => False) :
    ∃ v, σ[i]? = some (some v) ∧ ∃ a dx fs, v = .ref a ∧ H a = some (.ins C dx fs) ∧ fs.lookup m = none := by
  split at w
  · rename_i C' l eg
    obtain ⟨rfl, w⟩ := w
    obtain ⟨v, ev⟩ := S.env.has eg
    obtain ⟨f1, fc, f2, ef, o, _⟩ := S.env.slot eg ev
    cases o with
    | @ins a dx _ _ fs fl n1 n2 b b' cf => exact ⟨_, ev, a, dx, fs, rfl, b, by rw [look_lookup]; exact cf.hasno w⟩
  · exact w.elim
theorem de_mth {pl : Sem Bool} (f : Mth X.prog X.w X.K X.mg X.base k x m n F) (hgd : X.A.guards = some []) (hr : Room j X.A) (hk : k ≤ j) (ho : PE X o (tVar i)) (ha : DA X pa (e :: es) ta)
    (hst : starEach (e :: es) X.env = (false, eval e X.env) :: starEach es X.env := by rfl) (hpl : (backTo pos (starEach es X.env)).any (·.1) = false := by rfl)
    (ht : eval (.Call (.Attribute o m apos) (e :: es) [] pos) X.env = (do
      let ov ← eval o X.env
      standAt apos.atName
      let (f, first) ← holding [ov] (getMethod ov m pl)
      callWith pos f first (backTo pos (starEach (e :: es) X.env)) (backToKw pos (keywordEach [] X.env))) := by rfl) :
    DE X false (.Call (.Attribute o m apos) (e :: es) [] pos) (dMth (clsOf X.mg x) i m n F ta) := by
  obtain ⟨C, fa, fd, ps, hm, c, me, Fg, b⟩ := f
  rw [clsOf_eq hm]
  refine pe_imp (pe_methG (pl := pl) ho c me Fg hgd (hr.mono hk) b ha hst hpl ht) fun σ H Q ⟨h, G, fp, Q', S, ⟨w0, ⟨t, eg⟩, w⟩, cc⟩ => ?_
  obtain ⟨v, ev, a, dx, fs, ea, hH, hl⟩ := ins_slot S w0
  refine ⟨v, ev, a, dx, fs, ea, hH, hl, h, G, fp, _, S, w, fun vs H1 ⟨h1, G1, f1, as, S1, av, e1, p1, hn, w1⟩ => ?_⟩
  show spOf X.K n 1 F (v :: (vs ++ [])) H1 Q C8.E0
  rw [List.append_nil]
  exact call_end S1 (.sl ev av) e1 hn w1 cc
theorem de_mth0 {pl : Sem Bool} (f : Mth X.prog X.w X.K X.mg X.base k x m n F) (hgd : X.A.guards = some []) (hr : Room j X.A) (hk : k ≤ j) (ho : PE X o (tVar i))
    (ht : eval (.Call (.Attribute o m apos) [] [] pos) X.env = (do
      let ov ← eval o X.env
      standAt apos.atName
      let (f, first) ← holding [ov] (getMethod ov m pl)
      callWith pos f first (backTo pos (starEach [] X.env)) (backToKw pos (keywordEach [] X.env))) := by rfl) :
    DE X false (.Call (.Attribute o m apos) [] [] pos) (dMth (clsOf X.mg x) i m n F dNil) := by
  obtain ⟨C, fa, fd, ps, hm, c, me, Fg, b⟩ := f
  rw [clsOf_eq hm]
  refine pe_imp (pe_methG0 (pl := pl) ho c me Fg hgd (hr.mono hk) b ht) fun σ H Q ⟨h, G, fp, Q', S, ⟨w0, ⟨t, eg⟩, hn, w⟩, cc⟩ => ?_
  obtain ⟨v, ev, a, dx, fs, ea, hH, hl⟩ := ins_slot S w0
  refine ⟨v, ev, a, dx, fs, ea, hH, hl, ?_⟩
  show spOf X.K n 1 F (v :: ([] ++ [])) H Q C8.E0
  exact call_end S (.sl ev .nil) (Ext.refl h H fp) hn w cc
theorem run_makeG {C f : Addr} {fd : FuncData} {ps : List Str} {sp : Sp} {pins : List (Addr × Obj)} {σ : L2.St} {H : Hp} {s : Shared} {Q : VK} {us : List Value} {vs : List V} (M : Mk X.K C f) (F : FnG X.prog X.w X.K X.mg X.base k f fd ps sp) (hgd : X.A.guards = some []) (hr : Room (k + 1) X.A) (hb : Binds X.K fd ps [])
    (I : Inv X pins σ H s) (r : Vals vs us)
    (h : ∀ x dx, H x = none → H dx = none → dx ≠ x → sp (.ref x :: vs) (upd (upd H dx (.own x)) x (.ins C dx [])) (fun v H2 => v = .non ∧ Q (.ref x) H2) C8.E0) :
    wpAny (model X.prog X.w) X.A (call (.ref C) us) (EP X pins σ Q) X.xe s := by
  have hq := h (s.heap.objs.size + 1) s.heap.objs.size (I.hok.fresh (Nat.le_succ _)) (I.hok.fresh (Nat.le_refl _)) (Nat.ne_of_lt (Nat.lt_succ_self _))
  have I2 := Inv.made (C := C) I
  have r2 : Vals (V.ref (s.heap.objs.size + 1) :: vs) (Value.ref (s.heap.objs.size + 1) :: us) := .cons rfl r
  have hl : (Value.ref (s.heap.objs.size + 1) :: us ++ []).length = ps.length := by
    have e := r2.length
    rw [F.len _ _ _ _ hq] at e
    rw [List.append_nil]
    exact e.symm
  have bd := hb _ (Value.ref (s.heap.objs.size + 1) :: us) I2.kIn hl
  rw [List.append_nil] at bd
  refine wpAny_call (make_map (f := f) I.kIn M.makes M.init (beq_iff_eq.mp M.fn) (codeAny_mono (F.run _ X.stack _ _ ⟨Value.ref (s.heap.objs.size + 1) :: us, []⟩ (Value.ref (s.heap.objs.size + 1) :: us) _ _ C8.E0 hgd (hr.make C us [])
    (I2.env0.make C us []) bd r2 hq) fun r s' hq' => ?_))
  match r, hq' with
  | .error e, hq' => exact False.elim hq'
  | .ok (.ret u), hq' =>
    obtain ⟨v, H', I3, rv, ev, q3⟩ := I2.after hq'
    subst ev
    exact ⟨rv, ⟨V.ref (s.heap.objs.size + 1), H', I3, rfl, q3⟩⟩
  | .ok .next, hq' => exact False.elim hq'
  | .ok .brk, hq' => exact False.elim hq'
  | .ok .cont, hq' => exact False.elim hq'
theorem de_make (f : Ini X.prog X.w X.K X.mg X.base k x n F) (hgd : X.A.guards = some []) (hr : Room j X.A) (hk : k + 1 ≤ j) (hg : Gl X x) (ha : DA X pa (e :: es) ta)
    (hdb : (x == ("__debug__" : Str)) = false := by decide) (he : starEach (e :: es) X.env = (false, eval e X.env) :: starEach es X.env := by rfl) (hpl : (backTo pos (starEach es X.env)).any (·.1) = false := by rfl) :
    DE X false (.Call (.Name x p) (e :: es) [] pos) (dMake (clsOf X.mg x) n F ta) := by
  obtain ⟨C, fa, fd, ps, hm, M, Fg, b⟩ := f
  rw [clsOf_eq hm]
  refine ⟨fun pins s σ H Q I ⟨h, G, fp, Q', S, w, cc⟩ => ?_⟩
  refine wpAny_Call_Name_kw (ld_glob I hg hm ?_ hdb)
  refine PySem.W.callWith_K (h₀ := X.base) I.ok.mod.kin M.kp (thn (ha.run pos pins s σ H (fun vs H1 => ∀ x dx, H1 x = none → H1 dx = none → dx ≠ x → spOf X.K n 1 F (.ref x :: vs) (upd (upd H1 dx (.own x)) x (.ins C dx [])) (fun v H2 => v = .non ∧ Q (.ref x) H2) C8.E0) I ?_) fun us s1 ⟨vs, H1, I1, r, q⟩ => ⟨I1.kIn, run_makeG M Fg hgd (hr.mono hk) b I1 r q⟩) he hpl
  refine ⟨h, G, fp, _, S, w, fun vs H1 ⟨h1, G1, f1, as, S1, av, e1, p1, w1⟩ y dx ny ndx ne => ?_⟩
  obtain ⟨ds, ed, hl, w2⟩ := withD_of w1
  have ad := avD_at av ed
  have fy : h1 y = none := by
    cases q : h1 y with
    | none => rfl
    | some u => obtain ⟨z, ez⟩ := S1.sub.there q; rw [ny] at ez; cases ez
  have fdx : h1 dx = none := by
    cases q : h1 dx with
    | none => rfl
    | some u => obtain ⟨z, ez⟩ := S1.sub.there q; rw [ndx] at ez; cases ez
  have sm : Same H1 (upd (upd H1 dx (.own y)) y (.ins C dx [])) := fun a u ea => by
    rw [upd_ne (fun z => by subst z; rw [ny] at ea; cases ea), upd_ne (fun z => by subst z; rw [ndx] at ea; cases ea)]; exact ea
  have ex0 : Ext h1 H1 [] h1 (upd (upd H1 dx (.own y)) y (.ins C dx [])) [y, dx] := ⟨Same.refl h1, fun a u _ ea => .inl (sm a u ea), fun a ma => by
    simp only [List.mem_cons, List.not_mem_nil, or_false] at ma
    rcases ma with rfl | rfl
    · exact .inr ny
    · exact .inr ndx, fun a u ea => .inl ea⟩
  refine ⟨by rw [List.length_cons, ← ad.length]; exact hl, h1, _, [y, dx] ++ [], _, S1.sub.trans (Sub.of sm), .cons (.ins fy fdx upd_same (by rw [upd_ne ne]; exact upd_same) .nil) ad.owns, by simp [ne.symm], w2, fun v H' h' outs t fo fv sb oo ot nd ex q => ?_⟩
  split at q
  · rename_i t1
    obtain ⟨rfl, q⟩ := q
    cases ot with
    | fz a0 =>
      cases a0
      refine ⟨rfl, cc _ H' ?_⟩
      cases oo with
      | so o1 o2 =>
        cases o2
        rw [List.append_nil] at nd ex
        have ex1 := ex0.trans (by simpa using ex)
        obtain ⟨or', nd2, ex2⟩ := call_ext S1 S1.env (by simp) ex1 (by simpa using nd)
        exact ⟨h', G1, f1, .t t1, _, ⟨⟨sb, or', S1.nd⟩, .t o1, by simpa using nd2, e1.trans (by simpa using ex2), fun z => by cases z⟩, q⟩
  · exact q.elim
end
section
variable {P : Program} {w : World} {K : PySem.W.Frag} {mg : Str → Option Value} {base : Heap}
open PyProof.Rows in
theorem mth_mk {x m qual : Str} {C : Addr} {st : Stmt} {f : Addr} {fd : FuncData} {N ps : List Str} {k n : Nat} {F : FS} {body : DTS} (hm : mg x = some (.ref C)) (c : Cls K C) (me : Meth K C m f) (Fd : C8.Fun K m qual st f fd) (b : Binds K fd ps []) (S : FnScope N ps (C8.fnScope st)) (hn : ps.length = n) (h1 : 1 ≤ n)
    (d : ∀ (cdv : Value) (A : Around) (outer : List Env) (s : Shared) (H : Hp) (E : XK), A.guards = some [] → Room k (A.deeper (envOfC qual (C8.fnScope st) s.heap.objs.size f cdv)) → DSs (cxOf C8.CX0 P w K mg base N qual (C8.fnScope st) f cdv A outer s H E).nox 1 (C8.fnBody st) body)
    (law : ∀ ts R, ts.length = n → F ts R → body ⟨fun G => R (G.take 1) (.fz .non), retW 1 R⟩ (ts.map some ++ List.replicate (N.length - n) none)) : Mth P w K mg base (k + 1) x m n F :=
  ⟨C, f, fd, ps, hm, c, me, fnG_of Fd S (fun vs H Q E sp => sp.1.trans hn.symm) fun cdv A outer s H vs Q E hg hr sp => body_ok rfl h1 (d cdv A outer s H E hg hr) law sp, b⟩
open PyProof.Rows in
theorem ini_mk {x qual : Str} {C : Addr} {st : Stmt} {f : Addr} {fd : FuncData} {N ps : List Str} {k n : Nat} {F : FS} {body : DTS} (hm : mg x = some (.ref C)) (M : Mk K C f) (Fd : C8.Fun K "__init__" qual st f fd) (b : Binds K fd ps []) (S : FnScope N ps (C8.fnScope st)) (hn : ps.length = n) (h1 : 1 ≤ n)
    (d : ∀ (cdv : Value) (A : Around) (outer : List Env) (s : Shared) (H : Hp) (E : XK), A.guards = some [] → Room k (A.deeper (envOfC qual (C8.fnScope st) s.heap.objs.size f cdv)) → DSs (cxOf C8.CX0 P w K mg base N qual (C8.fnScope st) f cdv A outer s H E).nox 1 (C8.fnBody st) body)
    (law : ∀ ts R, ts.length = n → F ts R → body ⟨fun G => R (G.take 1) (.fz .non), retW 1 R⟩ (ts.map some ++ List.replicate (N.length - n) none)) : Ini P w K mg base (k + 1) x n F :=
  ⟨C, f, fd, ps, hm, M, fnG_of Fd S (fun vs H Q E sp => sp.1.trans hn.symm) fun cdv A outer s H vs Q E hg hr sp => body_ok rfl h1 (d cdv A outer s H E hg hr) law sp, b⟩
end
end DL
namespace DL
open PySem PySem.Spec L2
theorem Owns.app {K : PySem.W.Frag} {h H : Hp} {t : T} {v : V} {g : List Addr} : ∀ {ts : List T} {vs : List V} {fp : List Addr}, Owns K h H ts vs fp → Own K h H t v g → Owns K h H (ts ++ [t]) (vs ++ [v]) (fp ++ g)
  | _, _, _, .nil, o => by simpa using Owns.cons o .nil
  | _, _, _, .cons a r, o => by simpa using Owns.cons a (Owns.app r o)
def dAppNew (to : DTE) : DTE := fun G Q => to G fun G1 v => match v with
  | .pk i p => (match atE G1 i p with | some (.ll ts) => ts.length < 10000000 ∧ Q (setE G1 i p (.ll (ts ++ [.ls []]))) (.t (.fz .non)) | _ => False)
  | .t _ => False
def dLenLL (te : DTE) : DTE := fun G Q => te G fun G1 v => match v with
  | .pk i p => (match atE G1 i p with | some (.ll ts) => Q G1 (.t (.fz (.int ts.length))) | _ => False)
  | .t _ => False
/-- [], a list of owned things to come -/
def dNewLL : DTE := fun G Q => Q G (.t (.ll []))
def dLcQ (ti : DTE) (g : DTG) (tt : DTT) (te : DTE) (us : List Nat) : DTE := fun G Q => ti G fun G1 v => match v with
  | .pk i p => i ∉ us ∧ (match atE G1 i p with
    | some (.ls ds) => ds.length ≤ 10000000 ∧ ∃ (px : D → Bool) (fx : D → D), (∀ d ∈ ds, g d (wipeE G1 us) fun G2 => atE G2 i p = some (.ls ds) ∧ wipeE G2 us = wipeE G1 us ∧ tt G2 fun _ b => b = px d ∧ (b = true → te G2 fun _ y => y = .t (.fz (fx d)))) ∧
      Q (unwipe G1 (wipeE G1 us) us) (.t (.ls ((ds.filter px).map fx)))
    | _ => False)
  | .t _ => False
def sGk (K : PySem.W.Frag) (ob : L2.St → L2.St) (g : DTG) : TG := fun v σ H R => ∃ h G fp d Q, Stt K h H G σ fp ∧ At K h d v ∧ g d G Q ∧ ∀ σ' G' fp', Stt K h H G' σ' fp' → (∀ a ∈ fp', a ∈ fp) → ob σ' = ob σ → Q G' → R σ' H
def DGk (X : Cx) (ob : L2.St → L2.St) (tg : Expr) (g : DTG) : Prop := PG X tg (sGk X.K ob g)
section
variable {X : Cx} {ob : L2.St → L2.St} {pos : Pos} {e : Expr} {es : List Expr} {g : DTG} {gs : DTGs}
theorem dgk_name {i : Nat} (p : PG X e (gName i)) (ho : ∀ σ x, ob (List.set σ i x) = ob σ) : DGk X ob e (gN i) := pg_imp p fun v σ H R ⟨h, G, fp, d, Q, S, a, ⟨hi, w⟩, c⟩ => by
  obtain ⟨f', S', s⟩ := S.store hi (.fz a) (by simpa using S.nd)
  exact c _ _ f' S' (fun x mx => by simpa using s x mx) (ho _ _) w
end
theorem LocV.other {H : Hp} {σ σ' : L2.St} {i : Nat} {p : Option Stp} {v : V} (l : LocV H σ i p v) (e : σ'[i]? = σ[i]?) : LocV H σ' i p v := by
  obtain ⟨v0, ev, l⟩ := l
  exact ⟨v0, e.trans ev, l⟩
theorem atE_other {G : En} {i j : Nat} {p : Option Stp} {o : Option T} (h : i ≠ j) : atE (G.set j o) i p = atE G i p := by
  unfold atE
  rw [List.getElem?_set_ne (Ne.symm h)]
theorem atE_wipe {G : En} {i : Nat} {p : Option Stp} : ∀ {us : List Nat}, i ∉ us → atE (wipeE G us) i p = atE G i p
  | [], _ => rfl
  | u :: us, h => by
    simp only [wipeE]
    rw [atE_other (fun z => h (by simp [z]))]
    exact atE_wipe fun m => h (by simp [m])
theorem wipeE_len (G : En) : ∀ us : List Nat, (wipeE G us).length = G.length
  | [] => rfl
  | u :: us => by simp only [wipeE, List.length_set]; exact wipeE_len G us
theorem upd_id {H : Hp} {a : Addr} {o : HO} (h : H a = some o) : upd H a o = H := by
  funext x
  by_cases e : x = a
  · subst e; rw [upd_same, h]
  · rw [upd_ne e]
theorem lcQ_imp {X : Cx} {ti te : DTE} {g : DTG} {tt : DTT} {pi : Bool} {us : List Nat} {σ : L2.St} {H : Hp} {Q : VK} (w : sE X.K false (dLcQ ti g tt te us) σ H Q) :
    tLc (fun σ H R => sE X.K pi ti σ H fun x H1 => (∃ a, x = .ref a ∧ (∃ xs, SqL X.K H1 a xs) ∧ R (Itl X.K a) H1) ∨ (∃ a, x = .ref a ∧ (∃ xs, SqT X.K H1 a xs) ∧ R (Itt X.K a) H1)) (sGk X.K (fun σ => L2.wipe σ us) g) (sT X.K true tt) (sE X.K true te) us σ H Q := by
  obtain ⟨h, G, fp, Q', S, w, c⟩ := w
  refine ⟨h, G, fp, _, S, w, fun v H1 ⟨h1, G1, f1, va, fva, r1, w1⟩ => ?_⟩
  cases va with
  | t t => exact w1.elim
  | pk i p =>
    obtain ⟨hij, w1⟩ := w1
    split at w1
    · rename_i ds et
      obtain ⟨hn, px, fx, hx, w1⟩ := w1
      have S1 := r1.st
      cases r1.ov with
      | pk l e =>
        obtain ⟨g1, gc, g2, _, oc, _⟩ := S1.env.loc et l
        cases oc with
        | @ls a _ vs0 n0 b0 r0 =>
          refine .inl ⟨a, rfl, ⟨vs0, SqL.of b0⟩, ?_⟩
          intro D nD
          have hD1 : h1 D = none := by
            cases q : h1 D with
            | none => rfl
            | some o => obtain ⟨u, e⟩ := S1.sub.there q; rw [nD] at e; cases e
          have etw : atE (wipeE G1 us) i p = some (.ls ds) := by rw [atE_wipe hij]; exact et
          have lw : ∀ {H2}, LocV H2 σ i p (.ref a) → LocV H2 (L2.wipe σ us) i p (.ref a) := fun l2 => l2.other (by rw [wipe_get, if_neg hij])
          refine ⟨fun k mm H' => mm = ds.length - k ∧ k ≤ ds.length ∧ ∃ h' f' va, H' D = some (.lst va) ∧ Ats X.K h' (((ds.take k).filter px).map fx) va ∧ h' D = none ∧ D ∉ f' ∧ Stt X.K h' H' (wipeE G1 us) (L2.wipe σ us) f' ∧ Ext h1 (upd H1 D (.lst [])) f1 h' (upd H' D (.lst [])) f' ∧ Same h1 h' ∧ LocV H' (L2.wipe σ us) i p (.ref a),
            ⟨ds.length, rfl, Nat.zero_le _, ?_⟩, ?_⟩
          · have Sn : Stt X.K h1 (upd H1 D (.lst [])) G1 σ f1 := S1.grow (Same.refl h1) (fun a o e => by
              rw [upd_ne (fun z => by subst z; rw [hD1] at e; cases e)]; exact S1.sub a o e) (fun a o e => by rw [upd_ne (ne_of_none e nD)]; exact e) fun _ _ e => .inl e
            obtain ⟨f2, S2, s2⟩ := Sn.wipe us
            have nf1 : D ∉ f1 := fun m => by obtain ⟨_, u, e⟩ := S1.env.there D m; rw [nD] at e; cases e
            refine ⟨h1, f2, [], upd_same, .nil, hD1, fun m => nf1 (s2 D m), S2, ?_, Same.refl h1, lw (l.keep S1 et fun x m => upd_ne fun z => nf1 (z ▸ m))⟩
            rw [upd_upd]
            exact (Ext.refl h1 _ f1).weak s2
          · rintro k mm H' ⟨rfl, hk, h', f', va, eD, ac, nh, nf, S', e', s', l'⟩
            obtain ⟨q1, qc, q2, _, oc', _⟩ := S'.env.loc etw l'
            cases oc' with
            | @ls _ _ vs n b r =>
              by_cases hlt : k < ds.length
              · have ex : ds[k]? = some ds[k] := List.getElem?_eq_getElem hlt
                obtain ⟨x0, ex0, ax0⟩ := r.get ex
                refine .inr ⟨⟨vs, x0, SqL.of b, ex0⟩, fun H2 => k + 1 ≤ ds.length ∧ ∃ h' f' va, H2 D = some (.lst va) ∧ Ats X.K h' (((ds.take (k + 1)).filter px).map fx) va ∧ h' D = none ∧ D ∉ f' ∧ Stt X.K h' H2 (wipeE G1 us) (L2.wipe σ us) f' ∧ Ext h1 (upd H1 D (.lst [])) f1 h' (upd H2 D (.lst [])) f' ∧ Same h1 h' ∧ LocV H2 (L2.wipe σ us) i p (.ref a),
                  fun H2 hh => ⟨ds.length - (k + 1), by omega, rfl, hh⟩, ?_⟩
                rintro x H2 ⟨rfl, y⟩
                have exx : x0 = x := Option.some.inj (ex0.symm.trans (y vs (SqL.of b)))
                subst exx
                refine ⟨h', _, f', _, _, S', ax0, hx _ (List.getElem_mem hlt), fun σ3 G3 f3 S3 s3 t3 q3 => ?_⟩
                obtain ⟨ea3, ew3, q3⟩ := q3
                have ht3 : L2.wipe σ3 us = L2.wipe σ us := t3.trans (wipe_wipe σ us)
                refine ⟨ht3, ?_⟩
                -- what stands behind a step: the list at D is z
                have fin : ∀ {h5 : Hp} {H5 : Hp}, Stt X.K h5 H5 G3 σ3 f3 → Ext h' H2 f' h5 H5 f3 → (∀ a ∈ f3, H5 a = H2 a) → H5 D = some (.lst va) ∧ ∀ z, Ats X.K h5 (((ds.take (k + 1)).filter px).map fx) z →
                    ∃ h' f' va, (upd H5 D (.lst z)) D = some (.lst va) ∧ Ats X.K h' (((ds.take (k + 1)).filter px).map fx) va ∧ h' D = none ∧ D ∉ f' ∧ Stt X.K h' (upd H5 D (.lst z)) (wipeE G1 us) (L2.wipe σ us) f' ∧ Ext h1 (upd H1 D (.lst [])) f1 h' (upd (upd H5 D (.lst z)) D (.lst [])) f' ∧ Same h1 h' ∧ LocV (upd H5 D (.lst z)) (L2.wipe σ us) i p (.ref a) := fun {h5 H5} S5 x26 keep => by
                  have k1 : H5 D = some (.lst va) := (x26.fr D _ nf eD).elim id (fun ⟨d, _⟩ => by cases d)
                  have k2 : h5 D = none := by
                    cases q : h5 D with
                    | none => rfl
                    | some o =>
                      rcases x26.hn D o q with r | r | r
                      · rw [nh] at r; cases r
                      · exact (nf r).elim
                      · rcases r with r | ⟨_, r⟩ <;> (rw [eD] at r; cases r)
                  have k3 : D ∉ f3 := fun m => nf (s3 D m)
                  refine ⟨k1, fun z az => ?_⟩
                  obtain ⟨f7, S7, s7⟩ := S5.wipe us
                  rw [ew3, ht3] at S7
                  have nf7 : D ∉ f7 := fun m => k3 (s7 D m)
                  have lv5 : LocV H5 (L2.wipe σ us) i p (.ref a) := by
                    have es : σ3[i]? = (L2.wipe σ us)[i]? := by
                      have := congrArg (fun s : L2.St => s[i]?) ht3
                      simp only [wipe_get, if_neg hij] at this ⊢
                      exact this
                    have lb := (l'.other (σ' := σ3) es).keep (H' := H5) S3 (t := .ls ds) ea3 keep
                    exact lb.other es.symm
                  refine ⟨h5, f7, z, upd_same, az, k2, nf7, ⟨fun a o e => ?_, ?_, S7.nd⟩, ?_, s'.trans x26.gh, lv5.keep S7 etw fun x m => upd_ne fun z => nf7 (z ▸ m)⟩
                  · rw [upd_ne (fun z => by subst z; rw [k2] at e; cases e)]; exact S7.sub a o e
                  · exact S7.env.move (Same.refl h5) (fun a m => upd_ne fun z => nf7 (z ▸ m)) fun a m => (S7.env.there a m).1
                  · rw [upd_upd]
                    refine (e'.trans ⟨x26.gh, fun a o m e => ?_, fun a m => ?_, fun a o e => ?_⟩).weak s7
                    · by_cases d : a = D
                      · subst d; rw [upd_same] at e ⊢; exact .inl e
                      · rw [upd_ne d] at e ⊢; exact x26.fr a o m e
                    · rcases x26.nw a m with r | r
                      · exact .inl r
                      · right; rw [upd_ne (fun d => by subst d; rw [eD] at r; cases r)]; exact r
                    · rcases x26.hn a o e with r | r | r
                      · exact .inl r
                      · exact .inr (.inl r)
                      · have d : a ≠ D := fun d => by subst d; rcases r with r | ⟨_, r⟩ <;> (rw [eD] at r; cases r)
                        right; right; exact r.imp (fun r => by rw [upd_ne d]; exact r) fun ⟨vs, r⟩ => ⟨vs, by rw [upd_ne d]; exact r⟩
                have etake : (ds.take (k + 1)).filter px = (ds.take k).filter px ++ (if px ds[k] = true then [ds[k]] else []) := by
                  rw [List.take_succ, List.filter_append, ex]
                  simp [List.filter_cons]
                have wk : ∀ {h4 H4 : Hp} {f4 : List Addr}, Ext h' H2 f3 h4 H4 f4 → (∀ a ∈ f4, a ∈ f3) → Ext h' H2 f' h4 H4 f4 := fun {h4 H4 f4} x s4 => ⟨x.gh, fun a o m e => x.fr a o (fun z => m (s3 a z)) e, fun a m => .inl (s3 a (s4 a m)), fun a o e => by
                  rcases x.hn a o e with q | q | q
                  · exact .inl q
                  · exact .inr (.inl (s3 a q))
                  · exact .inr (.inr q)⟩
                refine ⟨h', _, f3, _, S3, q3, fun bb H4 ⟨h4, G4, f4, S4, x4, p4, eb, w4⟩ => ?_⟩
                obtain ⟨eG4, ef4, kp4⟩ := p4 rfl
                subst eG4 ef4
                cases bb with
                | true =>
                  rw [if_pos rfl]
                  refine ⟨h4, _, f4, _, S4, w4 rfl, fun u H5 ⟨h5, G5, f5, vl, fv, r5, w5⟩ => ?_⟩
                  subst w5
                  obtain ⟨eG, ef, keep⟩ := r5.pu rfl
                  subst eG ef
                  obtain ⟨k1, fn⟩ := fin r5.st (wk (x4.trans r5.drop) fun _ m => m) fun a m => (keep a m).trans (kp4 a m)
                  have ay : At X.K h5 (fx ds[k]) u := by
                    cases r5.ov with
                    | t o => cases o with | fz a => exact a
                  refine ⟨va, k1, ?_, hlt, fn _ ?_⟩
                  · have l1 := List.length_filter_le px (ds.take k)
                    rw [← ac.length, List.length_map]
                    rw [List.length_take] at l1
                    exact Nat.lt_of_lt_of_le (show _ < 10000000 by omega) (by decide)
                  · rw [etake, if_pos eb.symm, List.map_append]
                    exact Ats.append (ac.mono (x4.trans r5.drop).gh) (.cons ay .nil)
                | false =>
                  rw [if_neg Bool.false_ne_true]
                  obtain ⟨k1, fn⟩ := fin S4 (wk x4 fun _ m => m) kp4
                  refine ⟨hlt, ?_⟩
                  have := fn va (by rw [etake, if_neg (by rw [← eb]; simp), List.append_nil]; exact ac.mono x4.gh)
                  rw [upd_id k1] at this
                  exact this
              · have e : k = ds.length := by omega
                subst e
                rw [List.take_length] at ac
                refine .inl ⟨⟨vs, SqL.of b, by rw [← r.length]; exact Nat.le_refl _⟩, c _ _ ?_⟩
                have ln : (L2.wipe σ us).length = σ.length := wipe_length σ us
                have o1 : OwnE X.K h' H' (wipeE G1 us) σ f' := S'.env.other ln.symm fun i2 ne => by
                  rw [wipe_get] at ne
                  have hj : i2 ∈ us := Classical.byContradiction fun z => ne (by rw [if_neg z])
                  have hl : i2 < σ.length := Classical.byContradiction fun z => ne (by rw [if_pos hj, List.getElem?_eq_none (by omega)]; rfl)
                  have lg : (wipeE G1 us).length = σ.length := S'.env.length.trans ln
                  exact wipeE_none G1 us i2 hj (by rw [wipeE_len] at lg; omega)
                obtain ⟨f8, o8, n8, s8⟩ := unwipe_ok S1 s' S'.sub us o1 S'.nd
                refine ⟨h', _, f8, .t (.ls ((ds.filter px).map fx)), [D], ⟨⟨S'.sub, o8, n8⟩, .t (.ls nh eD ac), ?_, ?_, fun z => by cases z⟩, w1⟩
                · exact List.nodup_append.mpr ⟨n8, by simp, fun x hx y hy e => by simp at hy; subst hy; subst e; exact nf (s8 _ hx)⟩
                · refine r1.drop.trans ⟨s', fun a o m e => ?_, fun a m => ?_, fun a o e => ?_⟩
                  · have nd : a ≠ D := fun z => by subst z; rw [nD] at e; cases e
                    have := e'.fr a o m (by rw [upd_ne nd]; exact e)
                    rw [upd_ne nd] at this; exact this
                  · rcases List.mem_append.mp m with m | m
                    · rcases e'.nw a (s8 a m) with r | r
                      · exact .inl r
                      · have nd : a ≠ D := fun z => nf (by rw [← z]; exact s8 a m)
                        rw [upd_ne nd] at r; exact .inr r
                    · simp at m; subst m; exact .inr nD
                  · rcases e'.hn a o e with r | r | r
                    · exact .inl r
                    · exact .inr (.inl r)
                    · have nd : a ≠ D := fun z => by subst z; rw [nh] at e; cases e
                      exact .inr (.inr (r.imp (fun r => by rw [upd_ne nd] at r; exact r) fun ⟨vs, r⟩ => ⟨vs, by rw [upd_ne nd] at r; exact r⟩))
    · exact w1.elim
theorem de_lcQ {X : Cx} {pi : Bool} {tg iter elt : Expr} {ifs : List Expr} {ti te : DTE} {g : DTG} {tt : DTT} {pos : Pos} {scope : Scope} {own : List (Str × Nat)} (hc : X.calm = true) (hN : X.N.Nodup) (hi : DE X pi iter ti) (ok : BlkOk X.N X.env.scope scope own)
    (hg : ∀ (s : Shared) (H : Hp) (C : Addr) (cl : List (Str × Addr)) (fp : List Addr), DGk (X.blk s H scope (compEnvC scope cl C X.env) fp) (fun σ => L2.wipe σ (own.map (·.2))) tg g)
    (ht : ∀ (s : Shared) (H : Hp) (C : Addr) (cl : List (Str × Addr)) (fp : List Addr), PTs (X.blk s H scope (compEnvC scope cl C X.env) fp) ifs (sT X.K true tt))
    (he : ∀ (s : Shared) (H : Hp) (C : Addr) (cl : List (Str × Addr)) (fp : List Addr), DE (X.blk s H scope (compEnvC scope cl C X.env) fp) true elt te) (hs : ∀ x, foldedSetIterable iter X.env x = pure x := by intro _; rfl) :
    DE X false (.ListComp elt [⟨tg, iter, ifs, 0⟩] scope pos) (dLcQ ti g tt te (own.map (·.2))) :=
  pe_imp (pe_lc (own := own) (g := sGk X.K (fun σ => L2.wipe σ (own.map fun x : Str × Nat => x.2)) g) (tt := sT X.K true tt) (te := sE X.K true te) hc hN (pi_any hi) ok hg ht he hs) fun _ _ _ w => lcQ_imp w
end DL
namespace DL
open PySem PySem.Spec L2
open Sem (wp)
open AutoSeq1 (wpAny_loadPart')
def iEnumTD (ta : DTA) : DTI := fun G Q => ta G fun G1 as => withD as fun ds => match ds with | [.tup xs] => Q G1 (enumD 0 xs) | _ => False
end DL
namespace DL
open PySem PySem.Spec L2
end DL
namespace DL
open PySem PySem.Spec L2
section
variable {X : Cx}
def dSortSet (te : DTE) : DTE := fun G Q => te G fun G1 v => rdW G1 v fun d => match d with
  | .tup l => ∃ ns : List Int, l = ns.map .int ∧ ns.length < 64 ∧ ∀ ks : List Int, ks.Pairwise (· < ·) → (∀ k, k ∈ ks ↔ k ∈ ns) → Q G1 (.t (.ls (ks.map .int)))
  | _ => False
end
end DL
namespace DL
open PySem PySem.Spec L2
def maxDef (c : Int) : List Int → Int
  | [] => c
  | n :: r => r.foldl max n
section
variable {X : Cx}
def dMaxDef (te : DTE) : DTE := fun G Q => te G fun G1 v => rdW G1 v fun d => match d with
  | .tup l => ∃ ns : List Int, l = ns.map .int ∧ Q G1 (.t (.fz (.int (maxDef (-1) ns))))
  | _ => False
end
end DL
namespace DL
open PySem PySem.Spec L2
end DL
namespace DL
open PySem PySem.Spec L2
section
variable {X : Cx}
def dRevT (te : DTE) : DTE := fun G Q => te G fun G1 v => rdW G1 v fun d => match d with | .tup l => Q G1 (.t (.fz (.tup l.reverse))) | _ => False
end
end DL
namespace DL
open PySem PySem.Spec L2
def dNo : DTS := fun Ds G => False
end DL
namespace DL
open PySem PySem.Spec L2
def dPar2 (i j : Nat) (ta tb : DTE) : DTS := fun Ds G => ta G fun G1 v1 => match v1 with
  | .t t1 => tb G1 fun G2 v2 => fzW G2 v2 fun G3 d => i < G3.length ∧ j < G3.length ∧ Ds.nx ((G3.set i (some t1)).set j (some (.fz d)))
  | _ => False
end DL
namespace DL
open PySem PySem.Spec PyProof.Rows L2
def D.shw (d : D) : Prop := d.py.canLay0 = true ∧ d.py.showable = true ∧ d.py.hasDict = false ∧ d.py.depth ≤ 60 ∧ d.py.shown.length ≤ sizeLine
def reprD : D1 := fun x R => x.shw ∧ R (.fz (.str x.py.shown))
def reprN : DN := fun ds R => match ds with | [x] => reprD x R | _ => False
theorem hid_some {h : Heap} {H : Hp} {b : Addr} {o : Obj} (e : h.get? b = some o) (n : H b = none) : (hidT h H).get? b = some o := hidT_get e n
/-- the script alone is tracked (or nothing is) -/
structure Seen (K : PySem.W.Frag) (a : Addr) (H : Hp) : Prop where
  at_a : ∀ b u, H b = some u → b = a
  own : ∀ u, H a = some u → K.lookup a = none
  frz : Only H
theorem law_callG {P : Program} {w : World} {K : PySem.W.Frag} {mg mb : Str → Option Value} {k : Nat} {fa a : Addr} {fd : FuncData} {x : Str} {sp : Sp} {s : Shared} {vs : List Value} {ns : List Int}
    (KX : K.In s.heap) (hns : s.heap.Ns mainGlobals mg) (hb : s.heap.Ns builtinsNs mb) (hbb : ∀ x : Str, x ≠ "__name__" → mb x = bootBuiltins x) (hlim : s.heap.NoLimit) (hg : s.gens = #[])
    (ha : s.heap.get? a = some { cls := .type "list", data := .seq vs.toArray }) (hi : IntsAre vs ns) (hl : ns.length ≤ sizeLine) (hr : Room k callerA)
    (F : ∀ base : Heap, K.In base → base.Ns mainGlobals mg → FnG P w K mg base k fa fd [x] sp) (bind : ∀ (s : Shared) (u : Value), BindsTo s fd ⟨[u], []⟩ [(x, u)])
    (asks : ∀ H : Hp, Only H → SqL K H a (ns.map V.int) → sp [.ref a] H (fun v _ => v = .bl true) C8.E0) :
    codeAny (model P w) callerA (.call (.ref fa) ⟨[.ref a], []⟩) (fun r t => r = .ok (.ret (.bool true)) ∧ OldK s.heap t.heap ∧ t.os = s.os ∧ AllBare t.gens) s := by
  have step : ∀ H : Hp, Seen K a H → SqL K H a (ns.map V.int) → HOk P w H s.heap →
      codeAny (model P w) callerA (.call (.ref fa) ⟨[.ref a], []⟩) (fun r t => r = .ok (.ret (.bool true)) ∧ OldK s.heap t.heap ∧ t.os = s.os ∧ AllBare t.gens) s := fun H seen sq ok => by
    have free : ∀ {b : Addr} {o : Obj}, s.heap.get? b = some o → (b = a → False) → H b = none := fun {b o} _ ne => by
      cases q : H b with
      | none => rfl
      | some u => exact (ne (seen.at_a b u q)).elim
    have dicts : ∀ {b : Addr} {m : Str → Option Value}, s.heap.Ns b m → (hidT s.heap H).Ns b m := fun {b m} ⟨o, es, ep, e, d, r⟩ =>
      ⟨o, es, ep, hid_some e (free e fun z => by subst z; rw [ha] at e; cases e; cases d), d, r⟩
    have known : K.In (hidT s.heap H) := fun b o e => by
      refine hid_some (KX b o e) ?_
      cases q : H b with
      | none => rfl
      | some u =>
        have z := seen.at_a b u q
        subst z
        rw [seen.own u q] at e; cases e
    obtain ⟨mc, l1, l2⟩ := hlim
    have e0 : Env0 P w K mg (hidT s.heap H) callerA [] s H := ⟨rfl, ⟨known, dicts hns, ⟨mb, dicts hb, hbb⟩, ⟨mc, dicts l1, l2⟩⟩, fun b o e => of_hidT e, Nat.le_of_eq (hidT_size _ _), trivial, fun b m => (nomatch m), ok, .of_eq hg⟩
    refine codeAny_mono ((F _ known (dicts hns)).run callerA [] s H ⟨[.ref a], []⟩ [.ref a] [.ref a] _ _ rfl hr e0 (bind s (.ref a)) (.cons rfl .nil) (asks H seen.frz sq)) fun r t q => ?_
    match r, q with
    | .ok (.ret u), ⟨v, H', os, bare, un, ok', rel, q⟩ =>
      have q : v = .bl true := q
      subst q
      cases (show u = Value.bool true from rel)
      refine ⟨rfl, OldK.of_keep fun b o e => ?_, os, bare⟩
      cases q : H b with
      | none => exact un.keep b o e q (fun m => nomatch m) (fun m => nomatch m)
      | some u =>
        rcases seen.frz b with z | ⟨ob, xs, z⟩
        · rw [q] at z; cases z
        · have old := (ok b _ z).1
          rw [e] at old
          cases old
          exact (ok' b _ (un.frzs b o _ z)).1
    | .ok .next, q => exact False.elim q
    | .ok .brk, q => exact False.elim q
    | .ok .cont, q => exact False.elim q
    | .error e, q => exact False.elim q
  have rv := vals_ints hi
  cases hk : K.lookup a with
  | some o =>
    have e := KX a o hk
    rw [ha] at e
    cases e
    exact step (fun _ => none) (.mk (fun _ u z => by cases (show (none : Option HO) = some u from z)) (fun u z => by cases (show (none : Option HO) = some u from z)) (fun _ => .inl rfl)) (.inr ⟨_, vs.toArray, _, hk, rfl, rfl, rfl, by rw [List.size_toArray, hi.length]; exact hl, by simpa using rv⟩) (fun _ u z => by cases (show (none : Option HO) = some u from z))
  | none =>
    have one : ∀ b u, upd (fun _ => none) a (.frz { cls := .type "list", data := .seq vs.toArray } (.lst (ns.map V.int))) b = some u → b = a ∧ u = .frz { cls := .type "list", data := .seq vs.toArray } (.lst (ns.map V.int)) := fun b u z => by
      by_cases c : b = a
      · subst c; rw [upd_same] at z; cases z; exact ⟨rfl, rfl⟩
      · rw [upd_ne c] at z; cases z
    refine step _ ⟨fun b u z => (one b u z).1, fun _ _ => hk, fun b => ?_⟩ (.inl (.inr ⟨_, upd_same⟩)) fun b u z => ?_
    · cases q : upd (fun _ => none) a (.frz { cls := .type "list", data := .seq vs.toArray } (.lst (ns.map V.int))) b with
      | none => exact .inl rfl
      | some u => obtain ⟨_, e⟩ := one b u q; exact .inr ⟨_, _, by rw [e]⟩
    · obtain ⟨e1, e2⟩ := one b u z
      subst e1 e2
      exact ⟨ha, by rw [List.length_map]; exact hl, vs, _, rv, ha⟩
/-- the end of a law -/
theorem walkG {l : PySem.W.OpenLaw} {n k : Nat} {q : Program} {loose : List Str} {XP : (Str → Option Value) → Heap → Prop} {YP : World → Heap → Prop} {d : DefRec} {K : Params → PySem.W.Frag} {sp : World → Sp} {x : Str}
    (hn : l.most = some n) (hn2 : n ≤ sizeLine) (hdf : d.params.defaults = []) (hr : Room k callerA) (hY : ∀ (w : World) (h : Heap), YP w h → (K w.params).In h)
    (F : ∀ (w : World) (mg : Str → Option Value) (fa : Addr) (h : Heap), (K w.params).In h → h.Ns mainGlobals mg → mg d.name = some (.ref fa) →
      ∃ fd : FuncData, (∀ (s : Shared) (u : Value), BindsTo s fd ⟨[u], []⟩ [(x, u)]) ∧ ∀ base : Heap, (K w.params).In base → base.Ns mainGlobals mg → FnG l.prog w (K w.params) mg base k fa fd [x] (sp w))
    (asks : ∀ (w : World) (H : Hp) (a : Addr) (ns : List Int), ns.length ≤ n → Only H → SqL (K w.params) H a (ns.map V.int) → sp w [.ref a] H (fun v _ => v = .bl true) C8.E0) :
    PySem.W.WalkO q loose XP YP l.row.toRowW d [] (fun f vs => PySem.call f vs) :=
  Att.attach_call hn hdf fun w s₀ s₁ mg mb fa o pm cd doc a vs ns G Y ho hd hcd hmg hobj hints hlen hg => by
    obtain ⟨fd, bd, hF⟩ := F w mg fa _ (hY w _ Y) G.T.g hmg
    exact law_callG (hY w _ Y) G.T.g G.T.b G.T.builtins G.T.nolimit hg hobj hints (Nat.le_trans hlen hn2) hr hF bd fun H hO hS => asks w H a ns hlen hO hS
/-- a law's promise: True, whatever the script -/
def F_true (n : Nat) : FS := fun ts R => ∃ ns : List Int, ts = [.fz (.scr ns)] ∧ ns.length ≤ n ∧ R [] (.fz (.bl true))
theorem asks_true {K : PySem.W.Frag} {H : Hp} {a : Addr} {ns : List Int} {n : Nat} (hl : ns.length ≤ n) (sq : SqL K H a (ns.map V.int)) : spOf K 1 0 (F_true n) [.ref a] H (fun v _ => v = .bl true) C8.E0 :=
  ⟨rfl, H, [.fz (.scr ns)], [], fun _ t => t = .fz (.bl true), Sub.refl H, by simpa using Owns.cons (.fz (.scr sq)) .nil, .nil, ⟨ns, rfl, hl, rfl⟩, fun v H' h' outs t fo fv _ _ ow _ _ e => by subst e; cases ow with | fz b => cases b; rfl⟩
open PyProof.Rows in
/-- as fn_mk, the def's place known -/
theorem fnG_mk {P : Program} {w : World} {K : PySem.W.Frag} {mg : Str → Option Value} {base : Heap} {x : Str} {st : Stmt} {f : Addr} {fd : FuncData} {N ps : List Str} {k n m : Nat} {F : FS} {body : DTS} (Fd : C8.Def K mg x st f fd) (S : FnScope N ps (C8.fnScope st)) (hn : ps.length = n) (hm : m ≤ n)
    (d : ∀ (cdv : Value) (A : Around) (outer : List Env) (s : Shared) (H : Hp) (E : XK), A.guards = some [] → Room k (A.deeper (envOfC x (C8.fnScope st) s.heap.objs.size f cdv)) → DSs (cxOf C8.CX0 P w K mg base N x (C8.fnScope st) f cdv A outer s H E).nox m (C8.fnBody st) body)
    (law : ∀ ts R, ts.length = n → F ts R → body ⟨fun G => R (G.take m) (.fz .non), retW m R⟩ (ts.map some ++ List.replicate (N.length - n) none)) : FnG P w K mg base (k + 1) f fd ps (spOf K n m F) :=
  fnG_of Fd.fn S (fun vs H Q E sp => sp.1.trans hn.symm) fun cdv A outer s H vs Q E hg hr sp => body_ok rfl hm (d cdv A outer s H E hg hr) law sp
end DL
namespace DL
open PySem PySem.Spec L2
theorem rdW_t {G : En} {t : T} {k : D → Prop} : rdW G (.t t) k = rdT t k := rfl
theorem rdT_fz {d : D} {k : D → Prop} : rdT (.fz d) k = k d := rfl
theorem rdT_ls {d : List D} {k : D → Prop} : rdT (.ls d) k = k (.lst d) := rfl
theorem rdT_dk {d} {k : D → Prop} : rdT (.dk d) k = k (.dK d) := rfl
theorem rdT_dt {d} {k : D → Prop} : rdT (.dt d) k = k (.dT d) := rfl
theorem fzT_fz {d : D} {k : D → Prop} : fzT (.fz d) k = k d := by simp [fzT, T.calm, T.toD]
theorem fzT_ls {d : List D} {k : D → Prop} : fzT (.ls d) k = k (.lst d) := by simp [fzT, T.calm, T.toD]
theorem fzT_dk {d} {k : D → Prop} : fzT (.dk d) k = k (.dK d) := by simp [fzT, T.calm, T.toD]
theorem fzT_dt {d} {k : D → Prop} : fzT (.dt d) k = k (.dT d) := by simp [fzT, T.calm, T.toD]
theorem fzW_pk {G : En} {i : Nat} {p : Option Stp} {k : En → D → Prop} : fzW G (.pk i p) k = (match atE G i p with | some t => fzT t fun d => k (setE G i p (.fz d)) d | none => False) := rfl
theorem fzW_tt {G : En} {t : T} {k : En → D → Prop} : fzW G (.t t) k = fzT t (k G) := rfl
theorem rdW_pk {G : En} {i : Nat} {p : Option Stp} {k : D → Prop} : rdW G (.pk i p) k = (match atE G i p with | some t => rdT t k | none => False) := rfl
theorem atE_none {G : En} {i : Nat} : atE G i none = (match G[i]? with | some (some t) => some t | _ => none) := by unfold atE; split <;> simp_all
theorem mul_l {i j : Int} (h : -(2 ^ 64) < i ∧ i < 2 ^ 64) : mulOk i j := .inl (.inl h)
theorem mul_r {i j : Int} (h : -(2 ^ 64) < j ∧ j < 2 ^ 64) : mulOk i j := .inl (.inr h)
theorem mod_in {a b : Int} (h : 0 < b) : 0 ≤ a % b ∧ a % b < b := ⟨Int.emod_nonneg a (by omega), Int.emod_lt_of_pos a h⟩
theorem setE_none {G : En} {i : Nat} {t : T} : setE G i none t = G.set i (some t) := rfl
end DL
namespace DL
open PySem PySem.Spec L2
theorem dConst_ap (t : T) {G Q} : dConst t G Q = (Q G (.t t)) := rfl
theorem dVar_ap (i : Nat) {G Q} : dVar i G Q = (match G[i]? with
  | some (some (.fz d)) => Q G (.t (.fz d))
  | some (some t) => Q G (.pk i none)
  | _ => False) := rfl
theorem dBin_ap (k : D2) (pb : Bool) (ta tb : DTE) {G Q} : dBin k pb ta tb G Q = (ta G fun G1 va =>
  match va, pb with
  | .pk i p, true => tb G1 fun G2 vb => rdW G2 (.pk i p) fun x => rdW G2 vb fun y => k x y fun t => Q G2 (.t t)
  | va, _ => fzW G1 va fun G1' x => tb G1' fun G2 vb => rdW G2 vb fun y => k x y fun t => Q G2 (.t t)) := rfl
theorem dUn_ap (k : D1) (ta : DTE) {G Q} : dUn k ta G Q = (ta G fun G1 va => rdW G1 va fun x => k x fun t => Q G1 (.t t)) := rfl
theorem dVal_ap (te : DTE) {G Q} : dVal te G Q = (te G fun G1 v => rdW G1 v fun d => isB d fun b => Q G1 b) := rfl
theorem dAnd_ap (t u : DTT) {G Q} : dAnd t u G Q = (t G fun G1 c => if c = true then u G1 Q else Q G1 false) := rfl
theorem dOr_ap (t u : DTT) {G Q} : dOr t u G Q = (t G fun G1 c => if c = true then Q G1 true else u G1 Q) := rfl
theorem dNot_ap (t : DTT) {G Q} : dNot t G Q = (t G fun G1 c => Q G1 (!c)) := rfl
theorem dIfE_ap (t : DTT) (u v : DTE) {G Q} : dIfE t u v G Q = (t G fun G1 c => if c = true then u G1 Q else v G1 Q) := rfl
theorem dOfT_ap (t : DTT) {G Q} : dOfT t G Q = (t G fun G1 c => Q G1 (.t (.fz (.bl c)))) := rfl
theorem dBV_ap (te : DTE) {G Q} : dBV te G Q = (te G fun G1 v => rdW G1 v fun d => isB d fun b => Q G1 (.t (.fz (.bl b)))) := rfl
theorem dAndV_ap (ta tb : DTE) {G Q} : dAndV ta tb G Q = (ta G fun G1 v => rdW G1 v fun d => isB d fun b => if b = true then tb G1 Q else Q G1 (.t (.fz (.bl false)))) := rfl
theorem dOrV_ap (ta tb : DTE) {G Q} : dOrV ta tb G Q = (ta G fun G1 v => rdW G1 v fun d => isB d fun b => if b = true then Q G1 (.t (.fz (.bl true))) else tb G1 Q) := rfl
theorem dNotV_ap (ta : DTE) {G Q} : dNotV ta G Q = (ta G fun G1 v => rdW G1 v fun d => isB d fun b => Q G1 (.t (.fz (.bl (!b))))) := rfl
theorem dNil_ap {G Q} : dNil  G Q = (Q G []) := rfl
theorem dACons_ap (te : DTE) (ta : DTA) {G Q} : dACons te ta G Q = (te G fun G1 v => fzW G1 v fun G2 x => ta G2 fun G3 as => Q G3 (.d x :: as)) := rfl
theorem dAConsP_ap (te : DTE) (ta : DTA) {G Q} : dAConsP te ta G Q = (te G fun G1 v => fzP G1 v fun G2 x => ta G2 fun G3 as => Q G3 (.d x :: as)) := rfl
theorem dALend_ap (i : Nat) (ta : DTA) {G Q} : dALend i ta G Q = ((∃ t, G[i]? = some (some t)) ∧ ta G fun G3 as => Q G3 (.sl i :: as)) := rfl
theorem dTup_ap (ta : DTA) {G Q} : dTup ta G Q = (ta G fun G1 as => withD as fun ds => ds.length ≤ 1000 ∧ Q G1 (.t (.fz (.tup ds)))) := rfl
theorem dLst_ap (ta : DTA) {G Q} : dLst ta G Q = (ta G fun G1 as => withD as fun ds => ds.length ≤ 1000 ∧ Q G1 (.t (.ls ds))) := rfl
theorem dCB_ap (k : DN) (ta : DTA) {G Q} : dCB k ta G Q = (ta G fun G1 as => withD as fun ds => k ds fun t => Q G1 (.t t)) := rfl
theorem dCall_ap (n : Nat) (F : FS) (ta : DTA) {G Q} : dCall n F ta G Q = (ta G fun G1 as => as.length = n ∧ (match lendE G1 as with
  | some p => F p.1 fun outs t => Q (backE p.2 as outs) (.t t)
  | none => False)) := rfl
theorem dCallP_ap (n : Nat) (F : FS) (ta : DTA) {G Q} : dCallP n F ta G Q = (ta G fun G1 as => withD as fun ds => ds.length = n ∧ F (ds.map .fz) fun _ t => Q G1 (.t t)) := rfl
theorem dNext_ap {Ds G} : dNext  Ds G = (Ds.nx G) := rfl
theorem dSeq_ap (t u : DTS) {Ds G} : dSeq t u Ds G = (t ⟨u Ds, Ds.rt⟩ G) := rfl
theorem dIf_ap (c : DTT) (t u : DTS) {Ds G} : dIf c t u Ds G = (c G fun G1 b => if b = true then t Ds G1 else u Ds G1) := rfl
theorem dExpr_ap (te : DTE) {Ds G} : dExpr te Ds G = (te G fun G1 _ => Ds.nx G1) := rfl
theorem dRet_ap (te : DTE) {Ds G} : dRet te Ds G = (te G Ds.rt) := rfl
theorem gN_ap (i : Nat) {d G Q} : gN i d G Q = (i < G.length ∧ Q (G.set i (some (.fz d)))) := rfl
theorem gsNil_ap {ds G Q} : gsNil  ds G Q = (ds = [] ∧ Q G) := rfl
theorem gsCons_ap (g : DTG) (gs : DTGs) {ds G Q} : gsCons g gs ds G Q = (match ds with | [] => False | d :: r => g d G fun G1 => gs r G1 Q) := rfl
theorem gT_ap (n : Nat) (gs : DTGs) {d G Q} : gT n gs d G Q = (match d with | .tup ds => ds.length = n ∧ gs ds G Q | .ctup ds => ds.length = n ∧ gs ds G Q | _ => False) := rfl
theorem dSet_ap (i : Nat) (te : DTE) {Ds G} : dSet i te Ds G = (te G fun G1 v => setW G1 v i Ds.nx) := rfl
theorem dAsg_ap (te : DTE) (g : DTG) {Ds G} : dAsg te g Ds G = (te G fun G1 v => fzW G1 v fun G2 d => g d G2 Ds.nx) := rfl
theorem iSeqD_ap (te : DTE) {G Q} : iSeqD te G Q = (te G fun G1 v => fzW G1 v fun G2 d => match d with | .lst ds => Q G2 ds | .tup ds => Q G2 ds | .scr ns => Q G2 (ns.map .int) | .ctup ds => Q G2 ds | _ => False) := rfl
theorem iRange1_ap (ta : DTA) {G Q} : iRange1 ta G Q = (ta G fun G1 as => withD as fun ds => match ds with | [.int j] => -(2 ^ 62) ≤ j ∧ j < 2 ^ 62 ∧ Q G1 (upto 0 j.toNat) | _ => False) := rfl
theorem iRange2_ap (ta : DTA) {G Q} : iRange2 ta G Q = (ta G fun G1 as => withD as fun ds => match ds with | [.int i, .int j] => (-(2 ^ 62) ≤ i ∧ i < 2 ^ 62 ∧ -(2 ^ 62) ≤ j ∧ j < 2 ^ 62) ∧ Q G1 (upto i (j - i).toNat) | _ => False) := rfl
theorem iRange3_ap (ta : DTA) {G Q} : iRange3 ta G Q = (ta G fun G1 as => withD as fun ds => match ds with | [.int i, .int j, .int c] => ∃ n, RgC i j c n ∧ Q G1 (uptoC i c n) | _ => False) := rfl
theorem iEnumD_ap (ta : DTA) {G Q} : iEnumD ta G Q = (ta G fun G1 as => withD as fun ds => match ds with | [.lst xs] => Q G1 (enumD 0 xs) | _ => False) := rfl
theorem iZipD_ap (ta : DTA) {G Q} : iZipD ta G Q = (ta G fun G1 as => withD as fun ds => match ds with | [.lst xs, .lst ys] => Q G1 (zipD xs ys) | [.tup xs, .tup ys] => Q G1 (zipD xs ys) | _ => False) := rfl
theorem dFor_ap (ti : DTI) (g : DTG) (tb : DTS) {Ds G} : dFor ti g tb Ds G = (ti G fun G1 xs => forW g tb Ds xs G1) := rfl
theorem dYes_ap {G Q} : dYes  G Q = (Q G true) := rfl
theorem oNone_ap {G Q} : oNone  G Q = (Q G none) := rfl
theorem dSlice_ap (te : DTE) (tl th : DTO) {G Q} : dSlice te tl th G Q = (te G fun G1 v => match v with
  | .pk i p => tl G1 fun G2 lo => th G2 fun G3 hi => rdW G3 (.pk i p) fun x => sliceD lo hi x fun t => Q G3 (.t t)
  | .t t => rdT t fun x => tl G1 fun G2 lo => th G2 fun G3 hi => sliceD lo hi x fun t => Q G3 (.t t)) := rfl
theorem dMeth_ap (ty : String) (k : NT) (pa : Bool) (to : DTE) (ta : DTA) {G Q} : dMeth ty k pa to ta G Q = (to G fun G1 v => match v with
  | .pk i p => (∃ t, atE G1 i p = some t ∧ t.ty = ty) ∧ ta G1 fun G2 as => (p = none ∨ pa = true) ∧ withD as fun ds => (match atE G2 i p with | some t => k t ds fun t' r => Q (setE G2 i p t') (.t r) | none => False)
  | .t _ => False) := rfl
theorem dMeth0_ap (ty : String) (k : NT) (to : DTE) {G Q} : dMeth0 ty k to G Q = (to G fun G1 v => match v with
  | .pk i p => (match atE G1 i p with | some t => t.ty = ty ∧ k t [] fun t' r => Q (setE G1 i p t') (.t r) | none => False)
  | .t _ => False) := rfl
theorem dStore_ap (pi : Bool) (te to ti : DTE) {Ds G} : dStore pi te to ti Ds G = (te G fun G1 v => fzW G1 v fun G2 d => to G2 fun G3 vo => match vo with
  | .pk i p => ti G3 fun G4 vi => (p = none ∨ pi = true) ∧ rdW G4 vi fun y => (match atE G4 i p with | some t => storeN t y d fun t' => Ds.nx (setE G4 i p t') | none => False)
  | .t _ => False) := rfl
theorem dNewK_ap {G Q} : dNewK  G Q = (Q G (.t (.dk []))) := rfl
theorem dNewT_ap {G Q} : dNewT  G Q = (Q G (.t (.dt []))) := rfl
theorem dChain_ap (f g : Int → Int → Bool) (ta tb tc : DTE) {G Q} : dChain f g ta tb tc G Q = (ta G fun G1 va => rdW G1 va fun x => tb G1 fun G2 vb => rdW G2 vb fun y => isI x fun i => isI y fun j =>
  if f i j = true then tc G2 fun G3 vc => rdW G3 vc fun z => isI z fun l => Q G3 (.t (.fz (.bl (g j l)))) else Q G2 (.t (.fz (.bl false)))) := rfl
theorem dPar_ap (i j : Nat) (tA : DTA) {Ds G} : dPar i j tA Ds G = (tA G fun G1 as => match as with
  | [.d d1, .d d2] => i < G1.length ∧ j < G1.length ∧ Ds.nx ((G1.set i (some (.fz d1))).set j (some (.fz d2)))
  | _ => False) := rfl
theorem dListR1_ap (te : DTE) {G Q} : dListR1 te G Q = (te G fun G1 v => rdW G1 v fun d => isI d fun n => RgOk 0 n ∧ Q G1 (.t (.ls (upto 0 n.toNat)))) := rfl
theorem dNews_ap (t0 : T) (ta : DTA) {G Q} : dNews t0 ta G Q = (ta G fun G1 as => withD as fun ds => match ds with | [.int j] => -(2 ^ 62) ≤ j ∧ j ≤ 1000 ∧ Q G1 (.t (.ll (List.replicate j.toNat t0))) | _ => False) := rfl
theorem dKid_ap (ta tb : DTE) {G Q} : dKid ta tb G Q = (ta G fun G1 va => match va with
  | .pk i none => tb G1 fun G2 vb => rdW G2 vb fun y => isI y fun j => (match G2[i]? with
    | some (some (.ll ts)) => (match ixN ts.length j with
      | some k => (match ts[k]? with
        | some (.fz d) => Q G2 (.t (.fz d))
        | some _ => Q G2 (.pk i (some (.ix k)))
        | none => False)
      | none => False)
    | _ => False)
  | _ => False) := rfl
theorem dKidK_ap (k : Str) (ta : DTE) {G Q} : dKidK k ta G Q = (ta G fun G1 va => match va with
  | .pk i none => kidM G1[i]? k (fun d => Q G1 (.t (.fz d))) (Q G1 (.pk i (some (.ky (.inr k)))))
  | _ => False) := rfl
theorem dIxV_ap (i : Nat) (tb : DTE) {G Q} : dIxV i tb G Q = ((∃ t, G[i]? = some (some t)) ∧ tb G fun G1 vb => rdW G1 vb fun y => (match G1[i]? with
  | some (some t) => rdT t fun x => ixD x y fun r => Q G1 (.t r)
  | _ => False)) := rfl
theorem dDisp3_ap (k1 k2 k3 : Str) (t1 t2 t3 : DTE) {G Q} : dDisp3 k1 k2 k3 t1 t2 t3 G Q = (t1 G fun G1 v1 => fzW G1 v1 fun G1 d1 => t2 G1 fun G2 v2 => fzW G2 v2 fun G2 d2 => t3 G2 fun G3 v3 => match v3 with
  | .t t => Q G3 (.t (.dm [(.inr k1, .fz d1), (.inr k2, .fz d2), (.inr k3, t)]))
  | .pk _ _ => False) := rfl
theorem iDict_ap (te : DTE) {G Q} : iDict te G Q = (te G fun G1 v => fzW G1 v fun G2 d => match d with | .dK l => Q G2 (l.map fun p => keyD p.1) | .dT l => Q G2 (l.map fun p => .tup (p.1.map keyD)) | _ => False) := rfl
theorem dListR2_ap (ta tb : DTE) {G Q} : dListR2 ta tb G Q = (ta G fun G1 va => rdW G1 va fun x => isI x fun i => tb G1 fun G2 vb => rdW G2 vb fun y => isI y fun j => RgOk i j ∧ Q G2 (.t (.ls (upto i (j - i).toNat)))) := rfl
theorem dCallV_ap (mg : Str → Option Value) (i n : Nat) (T : List FT) (ta : DTA) {G Q} : dCallV mg i n T ta G Q = (∃ t ∈ T, G[i]? = some (some (.fz (.opq (fv mg t.x)))) ∧ dCall n t.F ta G Q) := rfl
theorem dRevL_ap (te : DTE) {G Q} : dRevL te G Q = (te G fun G1 v => rdW G1 v fun d => match d with | .lst l => Q G1 (.t (.ls l.reverse)) | _ => False) := rfl
theorem dRdV_ap (k : D2) (i : Nat) (tb : DTE) {G Q} : dRdV k i tb G Q = ((∃ t, G[i]? = some (some t) ∧ rdT t isLst) ∧ tb G fun G1 vb => rdW G1 vb fun y => match G1[i]? with
  | some (some t) => rdT t fun x => (isLst x ∧ k x y fun r => Q G1 (.t r))
  | _ => False) := rfl
theorem dCallB_ap (n : Nat) (F : FS) (ta : DTA) {G Q} : dCallB n F ta G Q = (ta G fun G1 as => as.length = n ∧ match lendE G1 as with
  | some p => (match flatTs p.1 with | some ds => F (ds.map .fz) fun _ t => ∃ b, t = .fz (.bl b) ∧ Q G1 (.t (.fz (.bl b))) | none => False)
  | none => False) := rfl
theorem dLenSet_ap (te : DTE) {G Q} : dLenSet te G Q = (te G fun G1 v => rdW G1 v fun d => match d with
  | .tup l => ∃ ns : List Int, l = ns.map .int ∧ ns.length ≤ 4000 ∧ ∀ ks : List Int, ks.Nodup → (∀ k, k ∈ ks ↔ k ∈ ns) → Q G1 (.t (.fz (.int (ks.length : Nat))))
  | _ => False) := rfl
theorem dFld_ap (C : Addr) (i : Nat) (f : Str) {G Q} : dFld C i f G Q = (match G[i]? with
  | some (some (.ins C' l)) => C' = C ∧ (match look l f with
    | some (.fz d) => Q G (.t (.fz d))
    | some _ => Q G (.pk i (some (.fd f)))
    | none => False)
  | _ => False) := rfl
theorem dFPut_ap (C : Addr) (i : Nat) (f : Str) (te : DTE) {Ds G} : dFPut C i f te Ds G = (te G fun G1 v => match v with
  | .t t => fputW C i f Ds.nx G1 t
  | .pk j p => fzW G1 (.pk j p) fun G2 d => fputW C i f Ds.nx G2 (.fz d)) := rfl
theorem dFPutZ_ap (C : Addr) (i : Nat) (f : Str) (te : DTE) {Ds G} : dFPutZ C i f te Ds G = (te G fun G1 v => fzW G1 v fun G2 d => fputW C i f Ds.nx G2 (.fz d)) := rfl
theorem dRetN_ap {Ds G} : dRetN  Ds G = (Ds.rt G (.t (.fz .non))) := rfl
theorem dMth_ap (C : Addr) (i : Nat) (m : Str) (n : Nat) (F : FS) (ta : DTA) {G Q} : dMth C i m n F ta G Q = ((match G[i]? with | some (some (.ins C' l)) => C' = C ∧ look l m = none | _ => False) ∧ dCall n F (dALend i ta) G Q) := rfl
theorem dMake_ap (C : Addr) (n : Nat) (F : FS) (ta : DTA) {G Q} : dMake C n F ta G Q = (ta G fun G1 as => withD as fun ds => ds.length + 1 = n ∧ F (.ins C [] :: ds.map .fz) fun outs t => (match outs with
  | [some t1] => t = .fz .non ∧ Q G1 (.t t1)
  | _ => False)) := rfl
theorem dAppNew_ap (to : DTE) {G Q} : dAppNew to G Q = (to G fun G1 v => match v with
  | .pk i p => (match atE G1 i p with | some (.ll ts) => ts.length < 10000000 ∧ Q (setE G1 i p (.ll (ts ++ [.ls []]))) (.t (.fz .non)) | _ => False)
  | .t _ => False) := rfl
theorem dLenLL_ap (te : DTE) {G Q} : dLenLL te G Q = (te G fun G1 v => match v with
  | .pk i p => (match atE G1 i p with | some (.ll ts) => Q G1 (.t (.fz (.int ts.length))) | _ => False)
  | .t _ => False) := rfl
theorem dNewLL_ap {G Q} : dNewLL  G Q = (Q G (.t (.ll []))) := rfl
theorem dLcQ_ap (ti : DTE) (g : DTG) (tt : DTT) (te : DTE) (us : List Nat) {G Q} : dLcQ ti g tt te us G Q = (ti G fun G1 v => match v with
  | .pk i p => i ∉ us ∧ (match atE G1 i p with
    | some (.ls ds) => ds.length ≤ 10000000 ∧ ∃ (px : D → Bool) (fx : D → D), (∀ d ∈ ds, g d (wipeE G1 us) fun G2 => atE G2 i p = some (.ls ds) ∧ wipeE G2 us = wipeE G1 us ∧ tt G2 fun _ b => b = px d ∧ (b = true → te G2 fun _ y => y = .t (.fz (fx d)))) ∧
      Q (unwipe G1 (wipeE G1 us) us) (.t (.ls ((ds.filter px).map fx)))
    | _ => False)
  | .t _ => False) := rfl
theorem iEnumTD_ap (ta : DTA) {G Q} : iEnumTD ta G Q = (ta G fun G1 as => withD as fun ds => match ds with | [.tup xs] => Q G1 (enumD 0 xs) | _ => False) := rfl
theorem dSortSet_ap (te : DTE) {G Q} : dSortSet te G Q = (te G fun G1 v => rdW G1 v fun d => match d with
  | .tup l => ∃ ns : List Int, l = ns.map .int ∧ ns.length < 64 ∧ ∀ ks : List Int, ks.Pairwise (· < ·) → (∀ k, k ∈ ks ↔ k ∈ ns) → Q G1 (.t (.ls (ks.map .int)))
  | _ => False) := rfl
theorem dMaxDef_ap (te : DTE) {G Q} : dMaxDef te G Q = (te G fun G1 v => rdW G1 v fun d => match d with
  | .tup l => ∃ ns : List Int, l = ns.map .int ∧ Q G1 (.t (.fz (.int (maxDef (-1) ns))))
  | _ => False) := rfl
theorem dRevT_ap (te : DTE) {G Q} : dRevT te G Q = (te G fun G1 v => rdW G1 v fun d => match d with | .tup l => Q G1 (.t (.fz (.tup l.reverse))) | _ => False) := rfl
theorem dNo_ap {Ds G} : dNo  Ds G = (False) := rfl
theorem dPar2_ap (i j : Nat) (ta tb : DTE) {Ds G} : dPar2 i j ta tb Ds G = (ta G fun G1 v1 => match v1 with
  | .t t1 => tb G1 fun G2 v2 => fzW G2 v2 fun G3 d => i < G3.length ∧ j < G3.length ∧ Ds.nx ((G3.set i (some t1)).set j (some (.fz d)))
  | _ => False) := rfl
end DL
namespace DL
open PySem PySem.Spec L2
section
variable {G : En} {R : T → Prop} {Q : En → Vl → Prop} {K : En → Prop} {i j : Int} {n : Nat} {l m : List D} {d x y : D} {b : Bool} {s u : Str} {t : T} {p : Option Stp}
theorem dCB1_ap (k : D1) (te : DTE) : dCB1 k te G Q = (te G fun G1 va => rdW G1 va fun x => k x fun t => Q G1 (.t t)) := rfl
theorem setW_t : setW G (.t t) n K = (n < G.length ∧ K (G.set n (some t))) := rfl
theorem setW_pk {j : Nat} : setW G (.pk j p) n K = fzW G (.pk j p) (fun G2 d => n < G2.length ∧ K (G2.set n (some (.fz d)))) := rfl
theorem isB_bl {k : Bool → Prop} : isB (.bl b) k = k b := rfl
theorem isI_int {k : Int → Prop} : isI (.int i) k = k i := rfl
theorem fzP_t {k : En → D → Prop} : fzP G (.t t) k = fzT t (k G) := rfl
theorem withD_nil {k : List D → Prop} : withD [] k = k [] := rfl
theorem withD_d {r : List AV} {k : List D → Prop} : withD (.d x :: r) k = withD r fun ds => k (x :: ds) := by
  unfold withD; simp only [avD]; cases avD r <;> rfl
theorem addD_i : addD (.int i) (.int j) R = R (.fz (.int (i + j))) := rfl
theorem addD_l : addD (.lst l) (.lst m) R = (l.length + m.length ≤ 10000000 ∧ R (.ls (l ++ m))) := rfl
theorem addD_t : addD (.tup l) (.tup m) R = (l.length + m.length ≤ 10000000 ∧ R (.fz (.tup (l ++ m)))) := rfl
theorem subD_i : subD (.int i) (.int j) R = R (.fz (.int (i - j))) := rfl
theorem mulD_i : mulD (.int i) (.int j) R = (mulOk i j ∧ R (.fz (.int (i * j)))) := rfl
theorem mulD_l : mulD (.lst l) (.int j) R = (-(2 ^ 63) ≤ j ∧ j < 2 ^ 63 ∧ l.length * j.toNat ≤ 10000000 ∧ R (.ls (repl j.toNat l))) := rfl
theorem mulD_t : mulD (.tup l) (.int j) R = (l ≠ [] ∧ 2 ≤ j ∧ j ≤ 1000 ∧ l.length ≤ 1000 ∧ R (.fz (.tup (repl j.toNat l)))) := rfl
theorem divD_i : divD (.int i) (.int j) R = ((0 < j ∧ j < 2 ^ 5000) ∧ R (.fz (.int (i / j)))) := rfl
theorem modD_i : modD (.int i) (.int j) R = (0 < j ∧ R (.fz (.int (i % j)))) := rfl
theorem powD_i : powD (.int i) (.int j) R = (CPow i j ∧ R (.fz (.int (i ^ j.toNat)))) := rfl
theorem negD_i : negD (.int i) R = R (.fz (.int (-i))) := rfl
theorem cmpI_i {f : Int → Int → Bool} : cmpI f (.int i) (.int j) R = R (.fz (.bl (f i j))) := rfl
theorem eqD_ap : eqD x y R = (x.shp ∧ y.shp ∧ R (.fz (.bl (D.eqv x y)))) := rfl
theorem neD_ap : neD x y R = (x.shp ∧ y.shp ∧ R (.fz (.bl (!D.eqv x y)))) := rfl
theorem inD_l : inD b x (.lst l) R = (x.shp ∧ (D.lst l).shp ∧ R (.fz (.bl (b != l.any fun z => D.eqv z x)))) := rfl
theorem inD_t : inD b x (.tup l) R = (x.shp ∧ (D.tup l).shp ∧ R (.fz (.bl (b != l.any fun z => D.eqv z x)))) := rfl
theorem inD_ki {k : List (Key × D)} : inD b (.int i) (.dK k) R = R (.fz (.bl (b != (look k (.inl i)).isSome))) := rfl
theorem inD_kt {k : List (List Key × D)} : inD b (.tup l) (.dT k) R = (match keysOf l with | some z => R (.fz (.bl (b != (look k z).isSome))) | none => False) := rfl
def getD' (o : Option D) (R : T → Prop) : Prop := match o with | some d => R (.fz d) | none => False
theorem getD'_some : getD' (some d) R = R (.fz d) := rfl
theorem ixD_l : ixD (.lst l) (.int i) R = getD' (atI l i) R := rfl
theorem ixD_t : ixD (.tup l) (.int i) R = getD' (atI l i) R := rfl
theorem ixD_s {c : List Int} : ixD (.scr c) (.int i) R = getD' ((atI c i).map .int) R := by
  show (match atI c i with | some n => R (.fz (.int n)) | none => False) = _
  cases atI c i <;> rfl
theorem ixD_ki {k : List (Key × D)} : ixD (.dK k) (.int i) R = getD' (look k (.inl i)) R := rfl
theorem ixD_kt {k : List (List Key × D)} : ixD (.dT k) (.tup l) R = (match keysOf l with | some z => getD' (look k z) R | none => False) := by
  show (match keysOf l with | some z => (match look k z with | some d => R (.fz d) | none => False) | none => False) = _
  cases keysOf l <;> rfl
theorem atI_lit {α : Type} (l : List α) (k : Nat) : atI l (k : Int) = l[k]? := by
  unfold atI
  by_cases h : k < l.length
  · have : ixN l.length (k : Int) = some k := by unfold ixN; rw [if_pos (by omega), if_pos (by omega)]; simp
    rw [this]; rfl
  · have : ixN l.length (k : Int) = none := by unfold ixN; rw [if_pos (by omega), if_neg (by omega)]
    rw [this, List.getElem?_eq_none (by omega)]; rfl
theorem atI_0 : atI (x :: l) 0 = some x := atI_lit (x :: l) 0
theorem atI_1 : atI (x :: y :: l) 1 = some y := atI_lit (x :: y :: l) 1
theorem atI_2 {z : D} : atI (x :: y :: z :: l) 2 = some z := atI_lit (x :: y :: z :: l) 2
theorem atI_3 {z w : D} : atI (x :: y :: z :: w :: l) 3 = some w := atI_lit (x :: y :: z :: w :: l) 3
theorem lenD_l : lenD [.lst l] R = R (.fz (.int l.length)) := rfl
theorem lenD_t : lenD [.tup l] R = R (.fz (.int l.length)) := rfl
theorem lenD_s {c : List Int} : lenD [.scr c] R = R (.fz (.int c.length)) := rfl
theorem min2D_i : min2D [.int i, .int j] R = R (.fz (.int (if j < i then j else i))) := rfl
theorem max2D_i : max2D [.int i, .int j] R = R (.fz (.int (if j > i then j else i))) := rfl
theorem absD_i : absD [.int i] R = R (.fz (.int (if i < 0 then -i else i))) := rfl
theorem intD_i : intD [.int i] R = R (.fz (.int i)) := rfl
theorem intD_b : intD [.bl b] R = R (.fz (.int (if b then 1 else 0))) := rfl
theorem listD_l : listD [.lst l] R = R (.ls l) := rfl
theorem listD_t : listD [.tup l] R = R (.ls l) := rfl
theorem tupleD_l : tupleD [.lst l] R = R (.fz (.tup l)) := rfl
theorem tupleD_t : tupleD [.tup l] R = R (.fz (.tup l)) := rfl
theorem dictTD_l : dictTD [.lst l] R = (match pairsT l with | some m => (m.map (·.1)).Nodup ∧ R (.dt m) | none => False) := rfl
theorem reprN_ap : reprN [x] R = (x.shw ∧ R (.fz (.str x.py.shown))) := rfl
theorem isinstD_ap {n : String} : isinstD [x, .opq (.ty n)] R = (match isiB x.tyn n with | some b => R (.fz (.bl b)) | none => False) := rfl
theorem sliceD_l {lo hi : Option Int} : sliceD lo hi (.lst l) R = R (.ls (cutL l lo hi)) := rfl
theorem sliceD_t {lo hi : Option Int} : sliceD lo hi (.tup l) R = R (.fz (.tup (cutL l lo hi))) := rfl
theorem oSome_ap' {te : DTE} {Q : En → Option Int → Prop} : oSome te G Q = (te G fun G1 v => rdW G1 v fun d => isI d fun i => Q G1 (some i)) := by
  rfl
variable {N : T → T → Prop}
theorem appendN_ap : appendN (.ls l) [x] N = (l.length < 10000000 ∧ N (.ls (l ++ [x])) (.fz .non)) := rfl
theorem extendN_ap : extendN (.ls l) [.lst m] N = (l.length + m.length ≤ 10000000 ∧ N (.ls (l ++ m)) (.fz .non)) := rfl
theorem popN_ap : popN (.ls l) [] N = ∃ x, l.getLast? = some x ∧ N (.ls l.dropLast) (.fz x) := rfl
theorem popAtN_ap : popAtN (.ls l) [.int i] N = ∃ (k : Nat) (x : D), i = k ∧ l[k]? = some x ∧ k < 2 ^ 62 ∧ N (.ls (l.eraseIdx k)) (.fz x) := rfl
theorem reverseN_ap : reverseN (.ls l) [] N = N (.ls l.reverse) (.fz .non) := rfl
def setL' (o : Option Nat) (l : List D) (d : D) (R : T → Prop) : Prop := match o with | some j => R (.ls (l.set j d)) | none => False
theorem setL'_some {j : Nat} : setL' (some j) l d R = R (.ls (l.set j d)) := rfl
theorem storeN_l : storeN (.ls l) (.int i) d R = setL' (ixN l.length i) l d R := rfl
theorem storeN_k {k : List (Key × D)} : storeN (.dk k) (.int i) d R = ((k.map (·.1)).Nodup ∧ k.length < 10000000 ∧ R (.dk (putL k (.inl i) d))) := rfl
theorem storeN_t {k : List (List Key × D)} : storeN (.dt k) (.tup l) d R = (match keysOf l with | some z => (k.map (·.1)).Nodup ∧ k.length < 10000000 ∧ R (.dt (putL k z d)) | none => False) := rfl
theorem ixN_lit {n k : Nat} (h : k < n) : ixN n (k : Int) = some k := by unfold ixN; rw [if_pos (by omega), if_pos (by omega)]; simp
theorem ixN_0 : ixN (n + 1) 0 = some 0 := ixN_lit (k := 0) (by omega)
theorem ixN_1 : ixN (n + 1 + 1) 1 = some 1 := ixN_lit (k := 1) (by omega)
theorem ixN_2 : ixN (n + 1 + 1 + 1) 2 = some 2 := ixN_lit (k := 2) (by omega)
end
end DL
namespace DL
open PySem PySem.Spec L2
theorem isi_int_bool : isiB "int" "bool" = some false := by decide +kernel
theorem isi_int_int : isiB "int" "int" = some true := by decide +kernel
theorem isi_tuple_tuple : isiB "tuple" "tuple" = some true := by decide +kernel
theorem isi_list_list : isiB "list" "list" = some true := by decide +kernel
end DL
namespace DL
open PySem PySem.Spec L2
end DL
namespace DL
open PySem PySem.Spec L2
/-- data of small numbers, c signs at most, k deep -/
structure Fine (d : D) (k c : Nat) : Prop where
  lay : d.py.canLay0 = true
  sho : d.py.showable = true
  nod : d.py.hasDict = false
  ok : PyData.strOk d.py.shown = true
  dep : d.py.depth ≤ k
  len : d.py.shown.length ≤ c
theorem Fine.mono {d : D} {k c k' c' : Nat} (f : Fine d k c) (h1 : k ≤ k') (h2 : c ≤ c') : Fine d k' c' := ⟨f.lay, f.sho, f.nod, f.ok, Nat.le_trans f.dep h1, Nat.le_trans f.len h2⟩
theorem Fine.shw {d : D} {k c : Nat} (f : Fine d k c) (h1 : k ≤ 60) (h2 : c ≤ 2 ^ 24) : d.shw := ⟨f.lay, f.sho, f.nod, Nat.le_trans f.dep h1, Nat.le_trans f.len h2⟩
theorem Fine.shp {d : D} {k c : Nat} (f : Fine d k c) (h1 : k ≤ 60) : d.shp := by
  show (d.py.canLay0 && decide (d.py.depth ≤ 64)) = true
  have := f.dep
  rw [f.lay, decide_eq_true (by omega)]; rfl
end DL
namespace DL
open PySem PySem.Spec L2
abbrev eN (_ : Unit) : D := .non
abbrev eD (d : D) : D := d
abbrev eP {α β : Type} (ea : α → D) (eb : β → D) (x : α × β) : D := .tup [ea x.1, eb x.2]
abbrev eP3 {α β γ : Type} (ea : α → D) (eb : β → D) (ec : γ → D) (x : α × β × γ) : D := .tup [ea x.1, eb x.2.1, ec x.2.2]
abbrev eL {α : Type} (e : α → D) (l : List α) : D := .lst (l.map e)
abbrev eU {α : Type} (e : α → D) (l : List α) : D := .tup (l.map e)
def eO {α : Type} (e : α → D) : Option α → D
  | none => .non
  | some a => e a
abbrev eMI {α : Type} (e : α → D) (m : List (Int × α)) : D := .dK (m.map fun p => (Sum.inl p.1, e p.2))
abbrev eMT {κ α : Type} (ek : κ → List Key) (e : α → D) (m : List (κ × α)) : D := .dT (m.map fun p => (ek p.1, e p.2))
abbrev kP (p : Int × Int) : List Key := [Sum.inl p.1, Sum.inl p.2]
abbrev tK {α : Type} (e : α → D) (m : List (Int × α)) : T := .dk (m.map fun p => (Sum.inl p.1, e p.2))
abbrev tLs {α : Type} (e : α → D) (l : List α) : T := .ls (l.map e)
/-- the encoding tells things apart and may be compared -/
structure EncOk {α : Type} [DecidableEq α] (e : α → D) (k : Nat) : Prop where
  lay : ∀ a, (e a).py.canLay0 = true
  dep : ∀ a, (e a).py.depth ≤ k
  eq : ∀ a b, D.eqv (e a) (e b) = decide (a = b)
theorem eqv_int' (a b : Int) : D.eqv (.int a) (.int b) = decide (a = b) := by
  show (a == b) = _
  by_cases h : a = b <;> simp [h]
theorem EncOk.shp {α : Type} [DecidableEq α] {e : α → D} {k : Nat} (h : EncOk e k) (hk : k ≤ 64) (a : α) : (e a).shp := by
  show (_ && decide _) = true
  rw [h.lay a, decide_eq_true (Nat.le_trans (h.dep a) hk)]; rfl
theorem ok_int : EncOk D.int 0 := ⟨fun _ => rfl, fun _ => Nat.le_refl _, eqv_int'⟩
theorem ok_bl : EncOk D.bl 0 := ⟨fun _ => rfl, fun _ => Nat.le_refl _, fun a b => by cases a <;> cases b <;> decide +kernel⟩
theorem eqv_tup (l m : List D) : D.eqv (.tup l) (.tup m) = PyData.eqvAll (D.pys l) (D.pys m) := rfl
theorem eqv_lst (l m : List D) : D.eqv (.lst l) (.lst m) = PyData.eqvAll (D.pys l) (D.pys m) := rfl
theorem eqvAll_cons (d d' : D) (r r' : List D) : PyData.eqvAll (D.pys (d :: r)) (D.pys (d' :: r')) = (D.eqv d d' && PyData.eqvAll (D.pys r) (D.pys r')) := rfl
section
variable {α β γ δ : Type} [DecidableEq α] [DecidableEq β] [DecidableEq γ] [DecidableEq δ] {ea : α → D} {eb : β → D} {ec : γ → D} {ed : δ → D} {k j i l : Nat}
theorem ok_pair (ha : EncOk ea k) (hb : EncOk eb j) : EncOk (eP ea eb) (max k j + 1) where
  lay x := by
    show (_ && (_ && true)) = true
    rw [ha.lay, hb.lay]; rfl
  dep x := by
    show max _ (max _ 0) + 1 ≤ _
    have := ha.dep x.1; have := hb.dep x.2; omega
  eq x y := by
    rw [eqv_tup, eqvAll_cons, eqvAll_cons, ha.eq, hb.eq]
    show (_ && (_ && true)) = _
    rw [Bool.eq_iff_iff]
    simp [Prod.ext_iff]
theorem all_lay (ha : EncOk ea k) : ∀ l : List α, PyData.canLayAll0 (D.pys (l.map ea)) = true
  | [] => rfl
  | x :: r => by
    show (_ && _) = true
    rw [ha.lay]; exact all_lay ha r
theorem all_dep (ha : EncOk ea k) : ∀ l : List α, PyData.depthAll (D.pys (l.map ea)) ≤ k
  | [] => Nat.zero_le _
  | x :: r => by
    show max _ _ ≤ _
    have h1 := ha.dep x; have h2 := all_dep ha r
    exact Nat.max_le.mpr ⟨h1, h2⟩
theorem all_eq (ha : EncOk ea k) : ∀ l m : List α, PyData.eqvAll (D.pys (l.map ea)) (D.pys (m.map ea)) = decide (l = m)
  | [], [] => by simp [D.pys, PyData.eqvAll]
  | [], _ :: _ => by simp [D.pys, PyData.eqvAll]
  | _ :: _, [] => by simp [D.pys, PyData.eqvAll]
  | x :: r, y :: s => by
    rw [List.map_cons, List.map_cons, eqvAll_cons, ha.eq, all_eq ha r s, Bool.eq_iff_iff]
    simp
theorem ok_L (ha : EncOk ea k) : EncOk (eL ea) (k + 1) where
  lay l := all_lay ha l
  dep l := Nat.succ_le_succ (all_dep ha l)
  eq l m := by rw [eqv_lst]; exact all_eq ha l m
theorem ok_U (ha : EncOk ea k) : EncOk (eU ea) (k + 1) where
  lay l := all_lay ha l
  dep l := Nat.succ_le_succ (all_dep ha l)
  eq l m := by rw [eqv_tup]; exact all_eq ha l m
theorem any_enc (ha : EncOk ea k) (l : List α) (x : α) : ((l.map ea).any fun z => D.eqv z (ea x)) = decide (x ∈ l) := by
  rw [List.any_map, Bool.eq_iff_iff, List.any_eq_true, decide_eq_true_iff]
  constructor
  · rintro ⟨y, m, e⟩
    have e : D.eqv (ea y) (ea x) = true := e
    rw [ha.eq, decide_eq_true_iff] at e
    exact e ▸ m
  · intro m
    exact ⟨x, m, by show D.eqv (ea x) (ea x) = true; rw [ha.eq]; simp⟩
end
def irange (lo hi : Int) : List Int := (List.range (hi - lo).toNat).map fun i => lo + (i : Nat)
def ienum {α : Type} (l : List α) : List (Int × α) := l.zipIdx.map fun p => ((p.2 : Int), p.1)
/-- the item under an index -/
def gi {α : Type} [Inhabited α] (l : List α) (i : Int) : α := (atI l i).getD default
abbrev InR {α : Type} (l : List α) (i : Int) : Prop := -(l.length : Int) ≤ i ∧ i < l.length
def hk {κ α : Type} [DecidableEq κ] (m : List (κ × α)) (k : κ) : Bool := (look m k).isSome
def sortI (l : List Int) : List Int := l.mergeSort fun a b => decide (a ≤ b)
instance : Inhabited D := ⟨.non⟩
theorem sortI_perm (l : List Int) : (sortI l).Perm l := List.mergeSort_perm l _
theorem sortI_sorted (l : List Int) : (sortI l).Pairwise (· ≤ ·) := by
  refine (List.pairwise_mergeSort (le := fun a b : Int => decide (a ≤ b)) (fun a b c h1 h2 => ?_) (fun a b => ?_) l).imp fun h => of_decide_eq_true h
  · simp only [decide_eq_true_eq] at *; omega
  · simp only [Bool.or_eq_true, decide_eq_true_eq]; omega
theorem sortI_of {l m : List Int} (h : m.Perm l) (s : m.Pairwise (· ≤ ·)) : m = sortI l :=
  List.Perm.eq_of_pairwise (fun a b _ _ h1 h2 => by omega) s (sortI_sorted l) (h.trans (sortI_perm l).symm)
def inl {α : Type} [DecidableEq α] (x : α) (l : List α) : Bool := decide (x ∈ l)
theorem inl_iff {α : Type} [DecidableEq α] {x : α} {l : List α} : inl x l = true ↔ x ∈ l := by unfold inl; exact decide_eq_true_iff
theorem inl_not {α : Type} [DecidableEq α] {x : α} {l : List α} : inl x l = false ↔ x ∉ l := by unfold inl; exact decide_eq_false_iff_not
section
variable {α β κ : Type} {e : α → D} {eb : β → D} {i j : Int} {R : T → Prop}
theorem k_add : ∀ R : T → Prop, R (.fz (.int (i + j))) → addD (.int i) (.int j) R := fun _ h => h
theorem k_sub : ∀ R : T → Prop, R (.fz (.int (i - j))) → subD (.int i) (.int j) R := fun _ h => h
theorem k_mul (c : mulOk i j) : ∀ R : T → Prop, R (.fz (.int (i * j))) → mulD (.int i) (.int j) R := fun _ h => ⟨c, h⟩
theorem k_div (c : 0 < j ∧ j < 2 ^ 5000) : ∀ R : T → Prop, R (.fz (.int (i / j))) → divD (.int i) (.int j) R := fun _ h => ⟨c, h⟩
theorem k_mod (c : 0 < j) : ∀ R : T → Prop, R (.fz (.int (i % j))) → modD (.int i) (.int j) R := fun _ h => ⟨c, h⟩
theorem k_neg : ∀ R : T → Prop, R (.fz (.int (-i))) → negD (.int i) R := fun _ h => h
theorem k_catL {a b : List α} (c : a.length + b.length ≤ 10000000) : ∀ R : T → Prop, R (.ls ((a ++ b).map e)) → addD (.lst (a.map e)) (.lst (b.map e)) R := fun R h => ⟨by simpa using c, by rw [List.map_append] at h; exact h⟩
theorem k_catU {a b : List α} (c : a.length + b.length ≤ 10000000) : ∀ R : T → Prop, R (.fz (.tup ((a ++ b).map e))) → addD (.tup (a.map e)) (.tup (b.map e)) R := fun R h => ⟨by simpa using c, by rw [List.map_append] at h; exact h⟩
theorem repl_one {γ : Type} (k : Nat) (x : γ) : repl k [x] = List.replicate k x := by
  unfold repl
  induction k with
  | zero => rfl
  | succ k ih => rw [List.replicate_succ, List.flatten_cons, ih]; rfl
theorem k_rep1 {x : α} {k : Int} (c : -(2 ^ 63) ≤ k ∧ k ≤ 10000000) : ∀ R : T → Prop, R (.ls ((List.replicate k.toNat x).map e)) → mulD (.lst [e x]) (.int k) R := fun R h => ⟨c.1, by omega, by simp; omega, by rw [repl_one]; simpa using h⟩
theorem k_lt : ∀ R : T → Prop, R (.fz (.bl (decide (i < j)))) → cmpI (fun i j => decide (i < j)) (.int i) (.int j) R := fun _ h => h
theorem k_le : ∀ R : T → Prop, R (.fz (.bl (decide (i ≤ j)))) → cmpI (fun i j => decide (i ≤ j)) (.int i) (.int j) R := fun _ h => h
theorem k_gt : ∀ R : T → Prop, R (.fz (.bl (decide (j < i)))) → cmpI (fun i j => decide (j < i)) (.int i) (.int j) R := fun _ h => h
theorem k_ge : ∀ R : T → Prop, R (.fz (.bl (decide (j ≤ i)))) → cmpI (fun i j => decide (j ≤ i)) (.int i) (.int j) R := fun _ h => h
theorem k_eq [DecidableEq α] {k : Nat} (ok : EncOk e k) (hk : k ≤ 64) {a b : α} : ∀ R : T → Prop, R (.fz (.bl (decide (a = b)))) → eqD (e a) (e b) R := fun R h => ⟨ok.shp hk a, ok.shp hk b, by rw [ok.eq]; exact h⟩
theorem k_ne [DecidableEq α] {k : Nat} (ok : EncOk e k) (hk : k ≤ 64) {a b : α} : ∀ R : T → Prop, R (.fz (.bl (!decide (a = b)))) → neD (e a) (e b) R := fun R h => ⟨ok.shp hk a, ok.shp hk b, by rw [ok.eq]; exact h⟩
theorem k_inL [DecidableEq α] {k : Nat} (ok : EncOk e k) (hk : k ≤ 60) {a : α} {l : List α} : ∀ R : T → Prop, R (.fz (.bl (inl a l))) → inD false (e a) (.lst (l.map e)) R := fun R h => ⟨ok.shp (by omega) a, (ok_L ok).shp (by omega) l, by rw [any_enc ok]; simpa [inl] using h⟩
theorem k_inU [DecidableEq α] {k : Nat} (ok : EncOk e k) (hk : k ≤ 60) {a : α} {l : List α} : ∀ R : T → Prop, R (.fz (.bl (inl a l))) → inD false (e a) (.tup (l.map e)) R := fun R h => ⟨ok.shp (by omega) a, (ok_U ok).shp (by omega) l, by rw [any_enc ok]; simpa [inl] using h⟩
theorem k_ninL [DecidableEq α] {k : Nat} (ok : EncOk e k) (hk : k ≤ 60) {a : α} {l : List α} : ∀ R : T → Prop, R (.fz (.bl (!inl a l))) → inD true (e a) (.lst (l.map e)) R := fun R h => ⟨ok.shp (by omega) a, (ok_L ok).shp (by omega) l, by rw [any_enc ok]; simpa [inl] using h⟩
theorem look_map {κ κ' α β : Type} [DecidableEq κ] [DecidableEq κ'] (f : κ → κ') (g : α → β) (inj : ∀ a b, f a = f b → a = b) (k : κ) : ∀ m : List (κ × α), look (m.map fun p => (f p.1, g p.2)) (f k) = (look m k).map g
  | [] => rfl
  | (k', v) :: r => by
    by_cases h : k' = k
    · simp [look, h]
    · have h2 : ¬ f k' = f k := fun q => h (inj _ _ q)
      simp only [List.map_cons, look, if_neg h, if_neg h2]
      exact look_map f g inj k r
theorem inj_I : ∀ a b : Int, (Sum.inl a : Key) = Sum.inl b → a = b := fun _ _ h => Sum.inl.inj h
theorem inj_P : ∀ a b : Int × Int, kP a = kP b → a = b := fun a b h => by
  simp only [kP, List.cons.injEq, Sum.inl.injEq, and_true] at h
  exact Prod.ext h.1 h.2
theorem k_ninK {m : List (Int × β)} : ∀ R : T → Prop, R (.fz (.bl (!hk m i))) → inD true (.int i) (eMI eb m) R := fun R h => by
  show R (.fz (.bl (true != (look (m.map fun p => ((Sum.inl p.1 : Key), eb p.2)) (Sum.inl i)).isSome)))
  rw [look_map (fun x : Int => (Sum.inl x : Key)) eb inj_I]; simpa [hk] using h
theorem k_inTP {m : List ((Int × Int) × β)} {p : Int × Int} : ∀ R : T → Prop, R (.fz (.bl (hk m p))) → inD false (eP D.int D.int p) (eMT kP eb m) R := fun R h => by
  show R (.fz (.bl (false != (look (m.map fun q => (kP q.1, eb q.2)) (kP p)).isSome)))
  rw [look_map kP eb inj_P]; simpa [hk] using h
theorem atI_map' {γ δ : Type} (f : γ → δ) (l : List γ) (i : Int) : atI (l.map f) i = (atI l i).map f := by
  unfold atI
  rw [List.length_map]
  cases ixN l.length i with
  | none => rfl
  | some k => show (l.map f)[k]? = _; rw [List.getElem?_map]; rfl
theorem atI_some {γ : Type} {l : List γ} {i : Int} (h : InR l i) : ∃ x, atI l i = some x := by
  unfold atI ixN
  by_cases h0 : 0 ≤ i
  · rw [if_pos h0, if_pos (by have := h.2; omega)]
    exact ⟨_, List.getElem?_eq_getElem (by have := h.2; omega)⟩
  · rw [if_neg h0, if_pos (by have := h.1; omega)]
    exact ⟨_, List.getElem?_eq_getElem (by have := h.1; omega)⟩
theorem k_ixL [Inhabited α] {l : List α} (c : InR l i) : ∀ R : T → Prop, R (.fz (e (gi l i))) → ixD (.lst (l.map e)) (.int i) R := fun R h => by
  obtain ⟨x, hx⟩ := atI_some c
  unfold ixD
  simp only [atI_map', hx, Option.map_some]
  simpa [gi, hx] using h
theorem k_ixU [Inhabited α] {l : List α} (c : InR l i) : ∀ R : T → Prop, R (.fz (e (gi l i))) → ixD (.tup (l.map e)) (.int i) R := fun R h => by
  obtain ⟨x, hx⟩ := atI_some c
  unfold ixD
  simp only [atI_map', hx, Option.map_some]
  simpa [gi, hx] using h
theorem k_ix0 {a : D} {l : List D} : ∀ R : T → Prop, R (.fz a) → ixD (.tup (a :: l)) (.int 0) R := fun R h => by
  show (match atI (a :: l) 0 with | some d => R (.fz d) | none => False)
  have : atI (a :: l) 0 = some a := by unfold atI ixN; rw [if_pos (by decide), if_pos (by simp)]; rfl
  rw [this]; exact h
theorem k_ix1 {a b : D} {l : List D} : ∀ R : T → Prop, R (.fz b) → ixD (.tup (a :: b :: l)) (.int 1) R := fun R h => by
  show (match atI (a :: b :: l) 1 with | some d => R (.fz d) | none => False)
  have : atI (a :: b :: l) 1 = some b := by unfold atI ixN; rw [if_pos (by decide), if_pos (by simp; omega)]; rfl
  rw [this]; exact h
theorem k_ix2 {a b c : D} {l : List D} : ∀ R : T → Prop, R (.fz c) → ixD (.tup (a :: b :: c :: l)) (.int 2) R := fun R h => by
  show (match atI (a :: b :: c :: l) 2 with | some d => R (.fz d) | none => False)
  have : atI (a :: b :: c :: l) 2 = some c := by unfold atI ixN; rw [if_pos (by decide), if_pos (by simp; omega)]; rfl
  rw [this]; exact h
theorem k_lenL {l : List α} : ∀ R : T → Prop, R (.fz (.int l.length)) → lenD [.lst (l.map e)] R := fun R h => by show R (.fz (.int (l.map e).length)); rw [List.length_map]; exact h
theorem k_lenU {l : List α} : ∀ R : T → Prop, R (.fz (.int l.length)) → lenD [.tup (l.map e)] R := fun R h => by show R (.fz (.int (l.map e).length)); rw [List.length_map]; exact h
theorem k_min2 : ∀ R : T → Prop, R (.fz (.int (min i j))) → min2D [.int i, .int j] R := fun R h => by
  show R (.fz (.int (if j < i then j else i)))
  have : (if j < i then j else i) = min i j := by split <;> omega
  rw [this]; exact h
theorem k_max2 : ∀ R : T → Prop, R (.fz (.int (max i j))) → max2D [.int i, .int j] R := fun R h => by
  show R (.fz (.int (if j > i then j else i)))
  have : (if j > i then j else i) = max i j := by split <;> omega
  rw [this]; exact h
theorem k_abs : ∀ R : T → Prop, R (.fz (.int (if i < 0 then -i else i))) → absD [.int i] R := fun _ h => h
theorem k_intB {b : Bool} : ∀ R : T → Prop, R (.fz (.int (if b = true then 1 else 0))) → intD [.bl b] R := fun _ h => h
theorem k_tupL {l : List D} : ∀ R : T → Prop, R (.fz (.tup l)) → tupleD [.lst l] R := fun _ h => h
theorem k_sortK {m : List (Int × β)} (c : m.length < 64) : ∀ R : T → Prop, R (.ls ((sortI (m.map (·.1))).map D.int)) → sortedD [eMI eb m] R := fun R h => ⟨m.map (·.1), by simp [List.map_map], by simpa using c, fun n hn hs => by rw [sortI_of hn hs]; exact h⟩
theorem k_isn {d : D} {n : String} {b : Bool} (c : isiB d.tyn n = some b) : ∀ R : T → Prop, R (.fz (.bl b)) → isinstD [d, .opq (.ty n)] R := fun R h => by
  show (match isiB d.tyn n with | some b => R (.fz (.bl b)) | none => False)
  rw [c]; exact h
end
end DL
namespace DL
open PySem PySem.Spec L2
section
variable {K : PySem.W.Frag} {h H : Hp}
theorem OwnE.forget {G : En} {σ : L2.St} {fp : List Addr} (i : Nat) (o : OwnE K h H G σ fp) : ∃ fp', OwnE K h H (G.set i none) σ fp' ∧ fp'.Sublist fp := by
  by_cases hi : i < σ.length
  · obtain ⟨f, q, s⟩ := OwnE.cut i σ[i] o
    rw [set_same (List.getElem?_eq_getElem hi)] at q
    exact ⟨f, q, s⟩
  · rw [List.set_eq_of_length_le (by rw [o.length]; omega)]
    exact ⟨fp, o, .refl _⟩
theorem OwnE.forgets {G : En} {σ : L2.St} {fp : List Addr} (o : OwnE K h H G σ fp) : ∀ is : List Nat, ∃ fp', OwnE K h H (wipeE G is) σ fp' ∧ fp'.Sublist fp
  | [] => ⟨fp, o, .refl _⟩
  | i :: is => by
    obtain ⟨f, q, s⟩ := o.forgets is
    obtain ⟨f', q', s'⟩ := q.forget i
    exact ⟨f', q', s'.trans s⟩
end
/-- what is known of some names is forgotten -/
def dKill (is : List Nat) : DTS := fun Ds G => Ds.nx (wipeE G is)
/-- a name's thing is frozen -/
def dFrz (i : Nat) : DTS := fun Ds G => fzW G (.pk i none) fun G' _ => Ds.nx G'
section
variable {X : Cx} {m : Nat} {rest : List Stmt} {t : DTS}
theorem Ext.less {h H h' H' : Hp} {f fp fp' : List Addr} (s : ∀ a ∈ f, a ∈ fp) (e : Ext h H f h' H' fp') : Ext h H fp h' H' fp' :=
  ⟨e.gh, fun a o n => e.fr a o fun q => n (s a q), fun a q => (e.nw a q).imp (s a) id, fun a o q => by
    rcases e.hn a o q with r | r | r
    · exact .inl r
    · exact .inr (.inl (s a r))
    · exact .inr (.inr r)⟩
theorem dss_kill (is : List Nat) (d : DSs X m rest t) : DSs X m rest (dSeq (dKill is) t) := pss_imp d fun D σ H ⟨h, G, fp, Ds, S, w, kn, kr, kx⟩ => by
  obtain ⟨f, o, s⟩ := S.env.forgets is
  refine ⟨h, wipeE G is, f, Ds, ⟨S.sub, o, s.nodup S.nd⟩, w, fun σ' H' n => kn σ' H' ?_, fun v H' n => kr v H' ?_, fun x C σ' H' hx n => kx x C σ' H' hx ?_⟩
  · obtain ⟨h', G', fp', S', e, q⟩ := n
    exact ⟨h', G', fp', S', e.less fun a m => s.subset m, q⟩
  · obtain ⟨h', G', fp', σ', vl, fv, S', ov, nd, e, q⟩ := n
    exact ⟨h', G', fp', σ', vl, fv, S', ov, nd, e.less fun a m => s.subset m, q⟩
  · obtain ⟨h', G', fp', S', e, q⟩ := n
    exact ⟨h', G', fp', S', e.less fun a m => s.subset m, q⟩
theorem dss_frz (i : Nat) (d : DSs X m rest t) : DSs X m rest (dSeq (dFrz i) t) := pss_imp d fun D σ H ⟨h, G, fp, Ds, S, w, kn, kr, kx⟩ => by
  have w : fzW G (.pk i none) (fun G' _ => t Ds G') := w
  have ex : ∃ t0, atE G i none = some t0 := by
    unfold fzW at w
    dsimp only at w
    split at w
    · exact ⟨_, by assumption⟩
    · exact w.elim
  obtain ⟨t0, e0⟩ := ex
  have e1 : G[i]? = some (some t0) := by
    unfold atE at e0
    split at e0
    · rename_i t1 q; cases e0; exact q
    · cases e0
  obtain ⟨v, ev⟩ := S.env.has e1
  have r : Res X.K true σ h H G fp h H G fp (.pk i none) v [] := ⟨S, .pk ⟨v, ev, rfl⟩ e0, by simpa using S.nd, by simpa using Ext.refl h H fp, fun _ => ⟨rfl, rfl, fun _ _ => rfl⟩⟩
  obtain ⟨h2, G2, f2, d2, S2, a2, x2, w2⟩ := r.fz w
  refine ⟨h2, G2, f2, Ds, S2, w2, fun σ' H' n => kn σ' H' ?_, fun v H' n => kr v H' ?_, fun x C σ' H' hx n => kx x C σ' H' hx ?_⟩
  · exact n.chain x2 rfl
  · exact n.chain x2 rfl
  · exact n.chain x2 rfl
end
def SP (te : DTE) (G : En) (v : Vl) : Prop := ∀ Q : En → Vl → Prop, Q G v → te G Q
def ST (tt : DTT) (G : En) (b : Bool) : Prop := ∀ Q : En → Bool → Prop, Q G b → tt G Q
def SA (ta : DTA) (G : En) (as : List AV) : Prop := ∀ Q : En → List AV → Prop, Q G as → ta G Q
def SI (ti : DTI) (G : En) (xs : List D) : Prop := ∀ Q : En → List D → Prop, Q G xs → ti G Q
def SO (to : DTO) (G : En) (o : Option Int) : Prop := ∀ Q : En → Option Int → Prop, Q G o → to G Q
def SG (g : DTG) (d : D) (G G' : En) : Prop := ∀ Q : En → Prop, Q G' → g d G Q
structure RD (G : En) (v : Vl) (d : D) : Prop where
  rd : ∀ k : D → Prop, k d → rdW G v k
  tm : ∀ t, v = .t t → t.calm = true ∧ t.toD = d
/-- a value that may be frozen, the environment stays -/
def FZ (G : En) (v : Vl) (d : D) : Prop := ∃ t : T, v = .t t ∧ t.calm = true ∧ t.toD = d
section
variable {G G' : En} {te ta tb tc : DTE} {tt tu : DTT} {tas : DTA} {v va vb : Vl} {d x y : D} {t : T} {a b c : Bool} {i n : Nat} {as : List AV} {ds : List D} {Ds : DEnds}
theorem rd_fz : RD G (.t (.fz d)) d := ⟨fun _ h => h, fun _ e => by cases e; exact ⟨by simp [T.calm], by simp [T.toD]⟩⟩
theorem rd_ls {l : List D} : RD G (.t (.ls l)) (.lst l) := ⟨fun _ h => h, fun _ e => by cases e; exact ⟨by simp [T.calm], by simp [T.toD]⟩⟩
theorem rd_pk (h : G[i]? = some (some t)) (e : t.flat = some d) : RD G (.pk i none) d := ⟨fun k q => by
  have ea : atE G i none = some t := by unfold atE; rw [h]
  show (match atE G i none with | some t => rdT t k | none => False)
  rw [ea]; show rdT t k; unfold rdT; rw [e]; exact q, fun _ e => by cases e⟩
theorem fz_fz : FZ G (.t (.fz d)) d := ⟨_, rfl, by simp [T.calm], by simp [T.toD]⟩
theorem fz_ls {l : List D} : FZ G (.t (.ls l)) (.lst l) := ⟨_, rfl, by simp [T.calm], by simp [T.toD]⟩
theorem FZ.w {k : En → D → Prop} (h : FZ G v d) (q : k G d) : fzW G v k := by
  obtain ⟨t, rfl, c, e⟩ := h
  subst e
  exact ⟨c, q⟩
theorem FZ.p {k : En → D → Prop} (h : FZ G v d) (q : k G d) : fzP G v k := by
  obtain ⟨t, rfl, c, e⟩ := h
  subst e
  exact ⟨c, q⟩
theorem sp_var_fz (h : G[i]? = some (some (.fz d))) : SP (dVar i) G (.t (.fz d)) := fun Q q => by unfold dVar; rw [h]; exact q
theorem sp_var (h : G[i]? = some (some t)) (hn : (match t with | .fz _ => False | _ => True)) : SP (dVar i) G (.pk i none) := fun Q q => by
  unfold dVar; rw [h]
  cases t with
  | fz d => exact hn.elim
  | _ => exact q
theorem sp_con : SP (dConst t) G (.t t) := fun Q q => q
theorem sp_bin {k : D2} (pa : SP ta G va) (ra : RD G va x) (pb : SP tb G vb) (rb : RD G vb y) (hk : ∀ R : T → Prop, R t → k x y R) : SP (dBin k true ta tb) G (.t t) := fun Q q => by
  refine pa _ ?_
  cases va with
  | t u =>
    obtain ⟨c, e⟩ := ra.tm u rfl
    subst e
    exact ⟨c, pb _ (rb.rd _ (hk _ q))⟩
  | pk i p => exact pb _ (ra.rd _ (rb.rd _ (hk _ q)))
theorem sp_binF {k : D2} {u : T} {pf : Bool} (pa : SP ta G (.t u)) (ra : FZ G (.t u) x) (pb : SP tb G vb) (rb : RD G vb y) (hk : ∀ R : T → Prop, R t → k x y R) : SP (dBin k pf ta tb) G (.t t) := fun Q q => by
  refine pa _ ?_
  obtain ⟨_, e0, c, e⟩ := ra
  cases e0
  subst e
  cases pf <;> exact ⟨c, pb _ (rb.rd _ (hk _ q))⟩
theorem sp_un {k : D1} (pa : SP ta G va) (ra : RD G va x) (hk : ∀ R : T → Prop, R t → k x R) : SP (dUn k ta) G (.t t) := fun Q q => pa _ (ra.rd _ (hk _ q))
theorem sp_cb1 {k : D1} (pa : SP ta G va) (ra : RD G va x) (hk : ∀ R : T → Prop, R t → k x R) : SP (dCB1 k ta) G (.t t) := sp_un pa ra hk
theorem st_val (p : SP te G v) (r : RD G v (.bl b)) : ST (dVal te) G b := fun Q q => p _ (r.rd _ q)
theorem st_and (pa : ST tt G a) (pb : a = true → ST tu G b) : ST (dAnd tt tu) G (a && b) := fun Q q => pa _ (by
  cases a with
  | true => exact pb rfl Q q
  | false => exact q)
theorem st_or (pa : ST tt G a) (pb : a = false → ST tu G b) : ST (dOr tt tu) G (a || b) := fun Q q => pa _ (by
  cases a with
  | true => exact q
  | false => exact pb rfl Q q)
theorem st_not (pa : ST tt G a) : ST (dNot tt) G (!a) := fun Q q => pa _ q
theorem sp_and (pa : SP ta G va) (ra : RD G va (.bl a)) (pb : a = true → SP tb G (.t (.fz (.bl b)))) : SP (dAndV ta tb) G (.t (.fz (.bl (a && b)))) := fun Q q => pa _ (ra.rd _ (by
  cases a with
  | true => exact pb rfl Q q
  | false => exact q))
theorem sp_or (pa : SP ta G va) (ra : RD G va (.bl a)) (pb : a = false → SP tb G (.t (.fz (.bl b)))) : SP (dOrV ta tb) G (.t (.fz (.bl (a || b)))) := fun Q q => pa _ (ra.rd _ (by
  cases a with
  | true => exact q
  | false => exact pb rfl Q q))
theorem sp_chain {f g : Int → Int → Bool} {i j l : Int} {vc : Vl} (pa : SP ta G va) (ra : RD G va (.int i)) (pb : SP tb G vb) (rb : RD G vb (.int j)) (pc : f i j = true → SP tc G vc) (rc : f i j = true → RD G vc (.int l)) :
    SP (dChain f g ta tb tc) G (.t (.fz (.bl (f i j && g j l)))) := fun Q q => pa _ (ra.rd _ (pb _ (rb.rd _ (by
  show if f i j = true then _ else _
  cases h : f i j with
  | true => rw [if_pos rfl]; rw [h] at q; exact pc h _ ((rc h).rd _ q)
  | false => rw [if_neg Bool.false_ne_true]; rw [h] at q; exact q))))
theorem sa_nil : SA dNil G [] := fun Q q => q
theorem sa_cons (p : SP te G v) (f : FZ G v d) (r : SA tas G as) : SA (dACons te tas) G (.d d :: as) := fun Q q => p _ (f.w (r _ q))
theorem sa_consP (p : SP te G v) (f : FZ G v d) (r : SA tas G as) : SA (dAConsP te tas) G (.d d :: as) := fun Q q => p _ (f.p (r _ q))
theorem sa_lend (h : G[i]? = some (some t)) (r : SA tas G as) : SA (dALend i tas) G (.sl i :: as) := fun Q q => ⟨⟨t, h⟩, r _ q⟩
theorem withD_w {k : List D → Prop} (e : avD as = some ds) (q : k ds) : withD as k := by unfold withD; rw [e]; exact q
theorem sp_tup (r : SA tas G as) (e : avD as = some ds) (hl : ds.length ≤ 1000) : SP (dTup tas) G (.t (.fz (.tup ds))) := fun Q q => r _ (withD_w e ⟨hl, q⟩)
theorem sp_lst (r : SA tas G as) (e : avD as = some ds) (hl : ds.length ≤ 1000) : SP (dLst tas) G (.t (.ls ds)) := fun Q q => r _ (withD_w e ⟨hl, q⟩)
theorem sp_cb {k : DN} (r : SA tas G as) (e : avD as = some ds) (hk : ∀ R : T → Prop, R t → k ds R) : SP (dCB k tas) G (.t t) := fun Q q => r _ (withD_w e (hk _ q))
theorem sp_callP {F : FS} (r : SA tas G as) (e : avD as = some ds) (hl : ds.length = n) (hF : ∀ R : En → T → Prop, R [] t → F (ds.map .fz) R) : SP (dCallP n F tas) G (.t t) := fun Q q => r _ (withD_w e ⟨hl, hF (fun _ t => Q G (.t t)) q⟩)
theorem lend_ds : ∀ {as : List AV} {ds : List D}, avD as = some ds → lendE G as = some (ds.map .fz, G)
  | [], _, e => by cases e; rfl
  | .d x :: r, _, e => by
    simp only [avD, Option.map_eq_some_iff] at e
    obtain ⟨ds, e1, rfl⟩ := e
    simp [lendE, lend_ds e1]
  | .sl _ :: _, _, e => by cases e
theorem back_ds (G : En) : ∀ {as : List AV} {ds : List D}, avD as = some ds → backE G as [] = G
  | [], _, _ => rfl
  | .d x :: r, _, _ => rfl
  | .sl _ :: _, _, e => by cases e
theorem avD_len : ∀ {as : List AV} {ds : List D}, avD as = some ds → as.length = ds.length
  | [], _, e => by cases e; rfl
  | .d x :: r, _, e => by
    simp only [avD, Option.map_eq_some_iff] at e
    obtain ⟨ds, e1, rfl⟩ := e
    simp [avD_len e1]
  | .sl _ :: _, _, e => by cases e
theorem sp_call {F : FS} (r : SA tas G as) (e : avD as = some ds) (hl : ds.length = n) (hF : ∀ R : En → T → Prop, R [] t → F (ds.map .fz) R) : SP (dCall n F tas) G (.t t) := fun Q q => r _ ⟨by rw [avD_len e]; exact hl, by
  rw [lend_ds e]
  exact hF (fun outs t => Q (backE G as outs) (.t t)) (by show Q (backE G as []) _; rw [back_ds G e]; exact q)⟩
theorem so_none : SO oNone G none := fun Q q => q
theorem so_some {i : Int} (p : SP te G v) (r : RD G v (.int i)) : SO (oSome te) G (some i) := fun Q q => p _ (r.rd _ q)
theorem cutL_map {α β : Type} (f : α → β) (l : List α) (lo hi : Option Int) : cutL (l.map f) lo hi = (cutL l lo hi).map f := by
  unfold cutL
  rw [List.length_map, ← List.map_drop, ← List.map_take]
theorem sp_sliceL {α : Type} {e : α → D} {l : List α} {to th : DTO} {lo hi : Option Int} (p : SP te G v) (r : RD G v (.lst (l.map e))) (pl : SO to G lo) (ph : SO th G hi) : SP (dSlice te to th) G (.t (.ls ((cutL l lo hi).map e))) := fun Q q => by
  refine p _ ?_
  cases v with
  | pk i s => exact pl _ (ph _ (r.rd _ (by show Q G (.t (.ls (cutL (l.map e) lo hi))); rw [cutL_map]; exact q)))
  | t u => exact r.rd _ (pl _ (ph _ (by show Q G (.t (.ls (cutL (l.map e) lo hi))); rw [cutL_map]; exact q)))
theorem sp_sliceU {α : Type} {e : α → D} {l : List α} {to th : DTO} {lo hi : Option Int} (p : SP te G v) (r : RD G v (.tup (l.map e))) (pl : SO to G lo) (ph : SO th G hi) : SP (dSlice te to th) G (.t (.fz (.tup ((cutL l lo hi).map e)))) := fun Q q => by
  refine p _ ?_
  cases v with
  | pk i s => exact pl _ (ph _ (r.rd _ (by show Q G (.t (.fz (.tup (cutL (l.map e) lo hi)))); rw [cutL_map]; exact q)))
  | t u => exact r.rd _ (pl _ (ph _ (by show Q G (.t (.fz (.tup (cutL (l.map e) lo hi)))); rw [cutL_map]; exact q)))
theorem sp_newT : SP dNewT G (.t (.dt [])) := fun Q q => q
theorem sp_listR1 {i : Int} (p : SP te G v) (r : RD G v (.int i)) (c : -(2 ^ 62) ≤ i ∧ i ≤ 1000) : SP (dListR1 te) G (.t (.ls ((irange 0 i).map D.int))) := fun Q q => p _ (r.rd _ (by
  refine ⟨?_, ?_⟩
  · unfold RgOk; omega
  · have : upto 0 i.toNat = (irange 0 i).map D.int := by unfold upto irange; rw [List.map_map, Int.sub_zero]; rfl
    rw [this]; exact q))
theorem sp_newsK {β : Type} (eb : β → D) {i : Int} (r : SA tas G [.d (.int i)]) (c : -(2 ^ 62) ≤ i ∧ i ≤ 1000) : SP (dNews (.dk []) tas) G (.t (.ll ((List.replicate i.toNat ([] : List (Int × β))).map (tK eb)))) := fun Q q => r _ ⟨c.1, c.2, by
  rw [List.map_replicate] at q; exact q⟩
theorem calmK {β : Type} (eb : β → D) : ∀ l : List (List (Int × β)), T.calms (l.map (tK eb)) = true
  | [] => by simp [T.calms]
  | x :: r => by simp only [List.map_cons, T.calms, T.calm, calmK eb r, Bool.and_self]
theorem toDsK {β : Type} (eb : β → D) : ∀ l : List (List (Int × β)), T.toDs (l.map (tK eb)) = l.map (eMI eb)
  | [] => by simp [T.toDs]
  | x :: r => by simp only [List.map_cons, T.toDs, T.toD, toDsK eb r]
theorem fz_llK {β : Type} {eb : β → D} {l : List (List (Int × β))} : FZ G (.t (.ll (l.map (tK eb)))) (.lst (l.map (eMI eb))) := ⟨_, rfl, by simp only [T.calm, calmK], by simp only [T.toD, toDsK]⟩
theorem upto_irange0 (i : Int) : upto 0 i.toNat = (irange 0 i).map D.int := by unfold upto irange; rw [List.map_map, Int.sub_zero]; rfl
theorem upto_irange (lo hi : Int) : upto lo (hi - lo).toNat = (irange lo hi).map D.int := by unfold upto irange; rw [List.map_map]; rfl
theorem si_seqL {l : List D} (p : SP te G v) (f : FZ G v (.lst l)) : SI (iSeqD te) G l := fun Q q => p _ (f.w q)
theorem si_seqU {l : List D} (p : SP te G v) (f : FZ G v (.tup l)) : SI (iSeqD te) G l := fun Q q => p _ (f.w q)
theorem si_range1 {i : Int} (r : SA tas G [.d (.int i)]) (c : -(2 ^ 62) ≤ i ∧ i < 2 ^ 62) : SI (iRange1 tas) G ((irange 0 i).map D.int) := fun Q q => r _ ⟨c.1, c.2, by rw [upto_irange0]; exact q⟩
theorem si_range2 {i j : Int} (r : SA tas G [.d (.int i), .d (.int j)]) (c : -(2 ^ 62) ≤ i ∧ i < 2 ^ 62 ∧ -(2 ^ 62) ≤ j ∧ j < 2 ^ 62) : SI (iRange2 tas) G ((irange i j).map D.int) := fun Q q => r _ ⟨c, by rw [upto_irange]; exact q⟩
theorem enumD_map {α : Type} (e : α → D) : ∀ (l : List α) (k : Nat), enumD k (l.map e) = (l.zipIdx k).map fun p => eP D.int e ((p.2 : Int), p.1)
  | [], _ => rfl
  | x :: r, k => by simp [enumD, enumD_map e r]
theorem si_enum {α : Type} {e : α → D} {l : List α} (r : SA tas G [.d (.lst (l.map e))]) : SI (iEnumD tas) G ((ienum l).map (eP D.int e)) := fun Q q => r _ (by
  show Q G (enumD 0 (l.map e))
  rw [enumD_map]; unfold ienum at q; rw [List.map_map] at q; exact q)
theorem zipD_map {α β : Type} (e : α → D) (f : β → D) : ∀ (l : List α) (m : List β), zipD (l.map e) (m.map f) = (l.zip m).map (eP e f)
  | [], _ => rfl
  | _ :: _, [] => rfl
  | x :: r, y :: s => by simp [zipD, zipD_map e f r s]
theorem si_zipL {α β : Type} {e : α → D} {f : β → D} {l : List α} {m : List β} (r : SA tas G [.d (.lst (l.map e)), .d (.lst (m.map f))]) : SI (iZipD tas) G ((l.zip m).map (eP e f)) := fun Q q => r _ (by
  show Q G (zipD (l.map e) (m.map f))
  rw [zipD_map]; exact q)
theorem sg_name (hi : i < G.length) (e : G.set i (some (.fz d)) = G') : SG (gN i) d G G' := fun Q q => ⟨hi, by rw [e]; exact q⟩
theorem sg_pair {i j : Nat} {d1 d2 : D} (hi : i < G.length) (hj : j < G.length) (e : (G.set i (some (.fz d1))).set j (some (.fz d2)) = G') : SG (gT 2 (gsCons (gN i) (gsCons (gN j) gsNil))) (.tup [d1, d2]) G G' := fun Q q =>
  ⟨rfl, hi, by simpa using hj, rfl, by rw [e]; exact q⟩
theorem sg_trip {i j k : Nat} {d1 d2 d3 : D} (hi : i < G.length) (hj : j < G.length) (hk : k < G.length) (e : ((G.set i (some (.fz d1))).set j (some (.fz d2))).set k (some (.fz d3)) = G') : SG (gT 3 (gsCons (gN i) (gsCons (gN j) (gsCons (gN k) gsNil)))) (.tup [d1, d2, d3]) G G' := fun Q q =>
  ⟨rfl, hi, by simpa using hj, by simpa using hk, rfl, by rw [e]; exact q⟩
theorem comp_pure {α : Type} {g : DTG} {tt : DTT} {te : DTE} {vs : List Nat} {Q : En → List D → Prop} (e : α → D) (p : α → Bool) (f : α → D) (Gx : α → En) (xs : List α)
    (hg : ∀ x ∈ xs, SG g (e x) (wipeE G vs) (Gx x)) (ht : ∀ x ∈ xs, ST tt (Gx x) (p x)) (he : ∀ x ∈ xs, p x = true → ∃ v, SP te (Gx x) v ∧ FZ (Gx x) v (f x)) (hw : ∀ x, wipeE (Gx x) vs = wipeE G vs)
    (hQ : ∀ G', wipeE G' vs = wipeE G vs → Q G' ((xs.filter p).map f)) : ∀ (r pre : List α) (acc : List D) (G' : En), xs = pre ++ r → xs.length ≤ 10000000 → acc = ((pre.filter p).map f) → wipeE G' vs = wipeE G vs → compW g tt te vs Q (r.map e) acc G'
  | [], pre, acc, G', e1, hl, ea, ew => by
    rw [List.append_nil] at e1
    subst e1 ea
    exact hQ G' ew
  | x :: r, pre, acc, G', e1, hl, ea, ew => by
    have hx : x ∈ xs := by rw [e1]; simp
    subst ea
    refine ⟨?_, ?_⟩
    · have h1 := List.length_filter_le p pre
      have h2 : pre.length < xs.length := by rw [e1]; simp
      rw [List.length_map]; omega
    rw [ew]
    refine hg x hx _ (ht x hx _ ?_)
    cases hp : p x with
    | true =>
      rw [if_pos rfl]
      obtain ⟨v, sv, fv⟩ := he x hx hp
      refine sv _ (fv.w ?_)
      exact comp_pure e p f Gx xs hg ht he hw hQ r (pre ++ [x]) _ _ (by rw [e1]; simp) hl (by rw [List.filter_append]; simp [hp]) (hw x)
    | false =>
      rw [if_neg Bool.false_ne_true]
      exact comp_pure e p f Gx xs hg ht he hw hQ r (pre ++ [x]) _ _ (by rw [e1]; simp) hl (by rw [List.filter_append]; simp [hp]) (hw x)
theorem sp_lc {α β : Type} {ti : DTI} {g : DTG} {tt : DTT} {te : DTE} {vs : List Nat} {xs : List α} (e : α → D) (p : α → Bool) (f : α → β) (eb : β → D) (Gx : α → En) (hi : SI ti G (xs.map e)) (hl : xs.length ≤ 10000000)
    (hg : ∀ x ∈ xs, SG g (e x) (wipeE G vs) (Gx x)) (ht : ∀ x ∈ xs, ST tt (Gx x) (p x)) (he : ∀ x ∈ xs, p x = true → ∃ v, SP te (Gx x) v ∧ FZ (Gx x) v (eb (f x))) (hw : ∀ x, wipeE (Gx x) vs = wipeE G vs)
    (hu : unwipe G (wipeE G vs) vs = G) : SP (dLc ti g tt te vs) G (.t (.ls (((xs.filter p).map f).map eb))) := fun Q q => hi _ (by
  refine comp_pure e p (fun x => eb (f x)) Gx xs hg ht he hw (fun G' ew => ?_) xs [] [] G rfl hl rfl rfl
  rw [ew, hu]
  rw [List.map_map] at q
  exact q)
theorem sp_lc0 {α β : Type} {ti : DTI} {g : DTG} {te : DTE} {vs : List Nat} {xs : List α} (e : α → D) (f : α → β) (eb : β → D) (Gx : α → En) (hi : SI ti G (xs.map e)) (hl : xs.length ≤ 10000000)
    (hg : ∀ x ∈ xs, SG g (e x) (wipeE G vs) (Gx x)) (he : ∀ x ∈ xs, ∃ v, SP te (Gx x) v ∧ FZ (Gx x) v (eb (f x))) (hw : ∀ x, wipeE (Gx x) vs = wipeE G vs)
    (hu : unwipe G (wipeE G vs) vs = G) : SP (dLc ti g dYes te vs) G (.t (.ls ((xs.map f).map eb))) := by
  have h := sp_lc (tt := dYes) e (fun _ => true) f eb Gx hi hl hg (fun x _ Q q => q) (fun x hx _ => he x hx) hw hu
  rwa [List.filter_eq_self.mpr fun _ _ => rfl] at h
theorem q_seq {t u : DTS} (h : t ⟨u Ds, Ds.rt⟩ G) : dSeq t u Ds G := h
theorem p_set {u : DTS} (p : SP te G (.t t)) (hi : i < G.length) (e : G.set i (some t) = G') (h : u Ds G') : dSeq (dSet i te) u Ds G := p _ ⟨hi, by rw [e]; exact h⟩
theorem p_kill {is : List Nat} {u : DTS} (e : wipeE G is = G') (h : u Ds G') : dSeq (dKill is) u Ds G := by
  show u Ds (wipeE G is); rw [e]; exact h
theorem p_frz {u : DTS} (h : G[i]? = some (some t)) (c : t.calm = true) (e : G.set i (some (.fz t.toD)) = G') (q : u Ds G') : dSeq (dFrz i) u Ds G := by
  have ea : atE G i none = some t := by unfold atE; rw [h]
  show (match atE G i none with | some t => fzT t fun d => u Ds (setE G i none (.fz d)) | none => False)
  rw [ea]
  exact ⟨c, by show u Ds (setE G i none (.fz t.toD)); rw [show setE G i none (.fz t.toD) = G.set i (some (.fz t.toD)) from rfl, e]; exact q⟩
theorem p_frzK {β : Type} {eb : β → D} {l : List (List (Int × β))} {u : DTS} (h : G[i]? = some (some (.ll (l.map (tK eb))))) (e : G.set i (some (.fz (.lst (l.map (eMI eb))))) = G') (q : u Ds G') : dSeq (dFrz i) u Ds G :=
  p_frz h (by simp only [T.calm, calmK]) (by simp only [T.toD, toDsK]; exact e) q
theorem p_if {t u : DTS} (p : ST tt G b) (h1 : b = true → t Ds G) (h2 : b = false → u Ds G) : dIf tt t u Ds G := p _ (by
  cases b with
  | true => exact h1 rfl
  | false => exact h2 rfl)
theorem p_ret (p : SP te G v) (h : Ds.rt G v) : dRet te Ds G := p _ h
theorem q_seqx {u : DTS} (h : te G fun G1 _ => u Ds G1) : dSeq (dExpr te) u Ds G := h
theorem p_app {α : Type} {e : α → D} {l : List α} {x : α} {pb : Bool} {u : DTS} (h : G[i]? = some (some (.ls (l.map e)))) (p : SA tas G [.d (e x)]) (c : l.length < 10000000) (eG : G.set i (some (.ls ((l ++ [x]).map e))) = G') (q : u Ds G') :
    dSeq (dExpr (dMeth "list" appendN pb (dVar i) tas)) u Ds G := by
  refine q_seqx ?_
  refine (sp_var h trivial) _ ?_
  have ea : atE G i none = some (.ls (l.map e)) := by unfold atE; rw [h]
  refine ⟨⟨_, ea, rfl⟩, p _ ⟨.inl rfl, ?_⟩⟩
  refine withD_w (ds := [e x]) rfl ?_
  rw [ea]
  refine ⟨by simpa using c, ?_⟩
  show u Ds (G.set i _)
  rw [List.map_append] at eG
  rw [show l.map e ++ [e x] = l.map e ++ [x].map e from rfl, eG]
  exact q
theorem p_ext {α : Type} {e : α → D} {l m : List α} {pb : Bool} {u : DTS} (h : G[i]? = some (some (.ls (l.map e)))) (p : SA tas G [.d (.lst (m.map e))]) (c : l.length + m.length ≤ 10000000) (eG : G.set i (some (.ls ((l ++ m).map e))) = G') (q : u Ds G') :
    dSeq (dExpr (dMeth "list" extendN pb (dVar i) tas)) u Ds G := by
  refine q_seqx ?_
  refine (sp_var h trivial) _ ?_
  have ea : atE G i none = some (.ls (l.map e)) := by unfold atE; rw [h]
  refine ⟨⟨_, ea, rfl⟩, p _ ⟨.inl rfl, ?_⟩⟩
  refine withD_w (ds := [.lst (m.map e)]) rfl ?_
  rw [ea]
  refine ⟨by simpa using c, ?_⟩
  show u Ds (G.set i _)
  rw [List.map_append] at eG
  rw [eG]
  exact q
theorem set_map {α β : Type} (f : α → β) (l : List α) (n : Nat) (x : α) : (l.map f).set n (f x) = (l.set n x).map f := List.map_set.symm
/-- xs[i] = x on a list -/
theorem p_stoL {α : Type} {e : α → D} {l : List α} {k : Int} {x : α} {pb : Bool} {ti : DTE} {vi : Vl} {u : DTS} (h : G[i]? = some (some (.ls (l.map e)))) (p : SP te G v) (f : FZ G v (e x)) (pi : SP ti G vi) (ri : RD G vi (.int k)) (c : 0 ≤ k ∧ k < l.length)
    (eG : G.set i (some (.ls ((l.set k.toNat x).map e))) = G') (q : u Ds G') : dSeq (dStore pb te (dVar i) ti) u Ds G := by
  show dStore pb te (dVar i) ti _ G
  refine p _ (f.w ((sp_var h trivial) _ (pi _ ⟨.inl rfl, ri.rd _ ?_⟩)))
  have ea : atE G i none = some (.ls (l.map e)) := by unfold atE; rw [h]
  rw [ea]
  show (match ixN (l.map e).length k with | some j => _ | none => False)
  have ek : ixN (l.map e).length k = some k.toNat := by unfold ixN; rw [if_pos c.1, if_pos (by rw [List.length_map]; omega)]
  rw [ek]
  show u Ds (G.set i _)
  rw [set_map, eG]; exact q
def putM {κ α : Type} [DecidableEq κ] (m : List (κ × α)) (k : κ) (x : α) : List (κ × α) := putL m k x
theorem putL_map {κ κ' α β : Type} [DecidableEq κ] [DecidableEq κ'] (f : κ → κ') (g : α → β) (inj : ∀ a b, f a = f b → a = b) (k : κ) (x : α) : ∀ m : List (κ × α), putL (m.map fun p => (f p.1, g p.2)) (f k) (g x) = (putL m k x).map fun p => (f p.1, g p.2)
  | [] => rfl
  | (k', v) :: r => by
    by_cases h : k' = k
    · simp [putL, h]
    · have h2 : ¬ f k' = f k := fun q => h (inj _ _ q)
      simp only [List.map_cons, putL, if_neg h, if_neg h2]
      rw [putL_map f g inj k x r]
theorem nodup_map_inj {κ κ' α β : Type} (f : κ → κ') (g : α → β) (inj : ∀ a b, f a = f b → a = b) {m : List (κ × α)} (h : (m.map (·.1)).Nodup) : ((m.map fun p => (f p.1, g p.2)).map (·.1)).Nodup := by
  rw [List.map_map]
  have : ((fun x : κ' × β => x.1) ∘ fun p : κ × α => (f p.1, g p.2)) = f ∘ (·.1) := rfl
  rw [this, ← List.map_map]
  exact List.Pairwise.map f (fun a b n e => n (inj a b e)) h
theorem p_stoTP {β : Type} {eb : β → D} {m : List ((Int × Int) × β)} {k : Int × Int} {x : β} {pb : Bool} {ti : DTE} {vi : Vl} {u : DTS} (h : G[i]? = some (some (.dt (m.map fun p => (kP p.1, eb p.2))))) (p : SP te G v) (f : FZ G v (eb x)) (pi : SP ti G vi) (ri : RD G vi (eP D.int D.int k)) (c : (m.map (·.1)).Nodup ∧ m.length < 10000000)
    (eG : G.set i (some (.dt ((putM m k x).map fun p => (kP p.1, eb p.2)))) = G') (q : u Ds G') : dSeq (dStore pb te (dVar i) ti) u Ds G := by
  show dStore pb te (dVar i) ti _ G
  refine p _ (f.w ((sp_var h trivial) _ (pi _ ⟨.inl rfl, ri.rd _ ?_⟩)))
  have ea : atE G i none = some (.dt (m.map fun p => (kP p.1, eb p.2))) := by unfold atE; rw [h]
  rw [ea]
  refine ⟨nodup_map_inj kP eb inj_P c.1, by rw [List.length_map]; exact c.2, ?_⟩
  show u Ds (G.set i _)
  rw [putL_map kP eb inj_P]
  rw [show putL m k x = putM m k x from rfl, eG]; exact q
/-- xs[a][b] = x : a list of dicts of its own -/
theorem p_stoLK {β : Type} {eb : β → D} {l : List (List (Int × β))} {a k : Int} {x : β} {tA ti : DTE} {vA vi : Vl} {u : DTS} (h : G[i]? = some (some (.ll (l.map (tK eb))))) (p : SP te G v) (f : FZ G v (eb x)) (pA : SP tA G vA) (rA : RD G vA (.int a)) (pi : SP ti G vi) (ri : RD G vi (.int k)) (ca : 0 ≤ a ∧ a < l.length) (c : ((gi l a).map (·.1)).Nodup ∧ (gi l a).length < 10000000)
    (eG : G.set i (some (.ll ((l.set a.toNat (putM (gi l a) k x)).map (tK eb)))) = G') (q : u Ds G') : dSeq (dStore true te (dKid (dVar i) tA) ti) u Ds G := by
  show dStore true te (dKid (dVar i) tA) ti _ G
  obtain ⟨n, rfl⟩ := Int.eq_ofNat_of_zero_le ca.1
  have hn : n < l.length := by omega
  have eg : gi l (n : Int) = l[n] := by
    unfold gi atI ixN
    rw [if_pos (by omega), if_pos (by omega)]
    show (l[(n : Int).toNat]?).getD default = _
    rw [Int.toNat_natCast, List.getElem?_eq_getElem hn]; rfl
  rw [eg] at c eG
  have el : (l.map (tK eb))[n]? = some (tK eb l[n]) := by rw [List.getElem?_map, List.getElem?_eq_getElem hn]; rfl
  have ei : ixN (l.map (tK eb)).length (n : Int) = some n := by unfold ixN; rw [if_pos (by omega), if_pos (by rw [List.length_map]; omega)]; rfl
  have ea : atE G i (some (.ix n)) = some (tK eb l[n]) := by unfold atE; rw [h]; exact el
  refine p _ (f.w ((sp_var h trivial) _ (pA _ (rA.rd _ ?_))))
  show (match G[i]? with | some (some (.ll ts)) => (match ixN ts.length (n : Int) with | some k => (match ts[k]? with | some (.fz d) => _ | some _ => _ | none => False) | none => False) | _ => False)
  rw [h]
  dsimp only
  rw [ei]
  dsimp only
  rw [el]
  dsimp only
  refine pi _ ⟨.inr rfl, ri.rd _ ?_⟩
  rw [ea]
  refine ⟨nodup_map_inj (fun x : Int => (Sum.inl x : Key)) eb inj_I c.1, by rw [List.length_map]; exact c.2, ?_⟩
  show u Ds (setE G i (some (.ix n)) _)
  unfold setE
  rw [h]
  dsimp only [T.setKid]
  rw [putL_map (fun x : Int => (Sum.inl x : Key)) eb inj_I]
  rw [show T.dk ((putL l[n] k x).map fun p => ((Sum.inl p.1 : Key), eb p.2)) = tK eb (putM l[n] k x) from rfl, set_map]
  rw [Int.toNat_natCast] at eG
  rw [eG]; exact q
end
end DL
namespace DL
open PySem PySem.Spec L2
def bnd {α : Type} (e : α) (k : α → Prop) : Prop := ∀ x, x = e → k x
def wIf (b : Bool) (A B : Prop) : Prop := (b = true → A) ∧ (b = false → B)
theorem q_ite {b : Bool} {A B : Prop} (h1 : b = true → A) (h2 : b = false → B) : if b = true then A else B := by
  cases b with
  | true => rw [if_pos rfl]; exact h1 rfl
  | false => rw [if_neg Bool.false_ne_true]; exact h2 rfl
theorem irange_nil {lo hi : Int} (h : hi ≤ lo) : irange lo hi = [] := by unfold irange; rw [show (hi - lo).toNat = 0 by omega]; rfl
theorem irange_cons {lo hi : Int} (h : lo < hi) : irange lo hi = lo :: irange (lo + 1) hi := by
  unfold irange
  rw [show (hi - lo).toNat = (hi - (lo + 1)).toNat + 1 by omega, List.range_succ_eq_map, List.map_cons, List.map_map]
  congr 1
  · simp
  · refine List.map_congr_left fun i _ => ?_
    show lo + ((i + 1 : Nat) : Int) = lo + 1 + (i : Nat)
    omega
theorem mem_irange {lo hi x : Int} : x ∈ irange lo hi ↔ lo ≤ x ∧ x < hi := by
  unfold irange
  rw [List.mem_map]
  constructor
  · rintro ⟨i, hi', rfl⟩
    have := List.mem_range.mp hi'
    omega
  · rintro ⟨h1, h2⟩
    exact ⟨(x - lo).toNat, List.mem_range.mpr (by omega), by omega⟩
theorem irange_length (lo hi : Int) : (irange lo hi).length = (hi - lo).toNat := by unfold irange; simp
section
variable {α : Type} {G : En} {Ds : DEnds} {ti : DTI} {g : DTG} {tb u : DTS} {tc : DTT}
def wFor0 : List α → (α → (Prop) → Prop) → (Prop) → Prop
  | [], _, k => k
  | x :: r, step, k => step x (wFor0 r step k)
theorem sim_for0 (e : α → D) (E : En) {step : α → (Prop) → Prop} {k : Prop}
    (hs : ∀ (x : α) (P : Prop) (C : En → Prop), step x P → (P → C (E)) → g (e x) (E) fun G2 => tb ⟨C, Ds.rt⟩ G2) (hk : k → u Ds (E)) : ∀ (xs : List α), wFor0 xs step k → forW g tb ⟨u Ds, Ds.rt⟩ (xs.map e) (E)
  | [], h => hk h
  | x :: r, h => hs x _ _ h fun h => sim_for0 e E hs hk r h
theorem q_for0 (e : α → D) (E : En) {xs : List α} {step : α → (Prop) → Prop} {k : Prop} (pi : SI ti G (xs.map e)) (hG : G = E) (h : wFor0 xs step k)
    (hs : ∀ (x : α) (P : Prop) (C : En → Prop), step x P → (P → C (E)) → g (e x) (E) fun G2 => tb ⟨C, Ds.rt⟩ G2) (hk : k → u Ds (E)) : dSeq (dFor ti g tb) u Ds G := pi _ (by rw [hG]; exact sim_for0 e E hs hk xs h)
theorem wFor0_inv' {step : α → (Prop) → Prop} {k : Prop} (I : List α → Prop) (xs : List α) (fin : I xs → k)
    (hs : ∀ (pre : List α) (x : α) (post : List α) (C : Prop), xs = pre ++ x :: post → I pre → (I (pre ++ [x]) → C) → step x C) : ∀ (r pre : List α), xs = pre ++ r → I pre → wFor0 r step k
  | [], pre, e, h => fin (by rw [e, List.append_nil]; exact h)
  | x :: r, pre, e, h => hs pre x r _ e h fun h => wFor0_inv' I xs fin hs r (pre ++ [x]) (by rw [e]; simp) h
theorem wFor0_inv {xs : List α} {step : α → (Prop) → Prop} {k : Prop} (I : List α → Prop) (h0 : I []) (fin : I xs → k)
    (hs : ∀ (pre : List α) (x : α) (post : List α) (C : Prop), xs = pre ++ x :: post → I pre → (I (pre ++ [x]) → C) → step x C) : wFor0 xs step k := wFor0_inv' I xs fin hs xs [] rfl h0
def wJ0 (B : (Prop) → Prop) (k : Prop) : Prop := ∃ I : Prop, B I ∧ (I → k)
theorem wJ0.mk {B : (Prop) → Prop} {k : Prop} (h : B k) : wJ0 B k := ⟨k, h, fun h => h⟩
def wFor1 {A0 : Type} : List α → A0 → (A0 → α → (A0 → Prop) → Prop) → (A0 → Prop) → Prop
  | [], a0, _, k => k a0
  | x :: r, a0, step, k => step a0 x (fun a0 => wFor1 r a0 step k)
theorem sim_for1 {A0 : Type} (e : α → D) (E : A0 → En) {step : A0 → α → (A0 → Prop) → Prop} {k : A0 → Prop}
    (hs : ∀ a0, ∀ (x : α) (P : A0 → Prop) (C : En → Prop), step a0 x P → (∀ a0, P a0 → C (E a0)) → g (e x) (E a0) fun G2 => tb ⟨C, Ds.rt⟩ G2) (hk : ∀ a0, k a0 → u Ds (E a0)) : ∀ (xs : List α) a0, wFor1 xs a0 step k → forW g tb ⟨u Ds, Ds.rt⟩ (xs.map e) (E a0)
  | [], a0, h => hk _ h
  | x :: r, a0, h => hs a0 x _ _ h fun a0 h => sim_for1 e E hs hk r a0 h
theorem q_for1 {A0 : Type} (e : α → D) (E : A0 → En) {xs : List α} {a0 : A0} {step : A0 → α → (A0 → Prop) → Prop} {k : A0 → Prop} (pi : SI ti G (xs.map e)) (hG : G = E a0) (h : wFor1 xs a0 step k)
    (hs : ∀ a0, ∀ (x : α) (P : A0 → Prop) (C : En → Prop), step a0 x P → (∀ a0, P a0 → C (E a0)) → g (e x) (E a0) fun G2 => tb ⟨C, Ds.rt⟩ G2) (hk : ∀ a0, k a0 → u Ds (E a0)) : dSeq (dFor ti g tb) u Ds G := pi _ (by rw [hG]; exact sim_for1 e E hs hk xs a0 h)
theorem wFor1_inv' {A0 : Type} {step : A0 → α → (A0 → Prop) → Prop} {k : A0 → Prop} (I : List α → A0 → Prop) (xs : List α) (fin : ∀ a0, I xs a0 → k a0)
    (hs : ∀ (pre : List α) (x : α) (post : List α) a0 (C : A0 → Prop), xs = pre ++ x :: post → I pre a0 → (∀ a0, I (pre ++ [x]) a0 → C a0) → step a0 x C) : ∀ (r pre : List α) a0, xs = pre ++ r → I pre a0 → wFor1 r a0 step k
  | [], pre, a0, e, h => fin a0 (by rw [e, List.append_nil]; exact h)
  | x :: r, pre, a0, e, h => hs pre x r a0 _ e h fun a0 h => wFor1_inv' I xs fin hs r (pre ++ [x]) a0 (by rw [e]; simp) h
theorem wFor1_inv {A0 : Type} {xs : List α} {a0 : A0} {step : A0 → α → (A0 → Prop) → Prop} {k : A0 → Prop} (I : List α → A0 → Prop) (h0 : I [] a0) (fin : ∀ a0, I xs a0 → k a0)
    (hs : ∀ (pre : List α) (x : α) (post : List α) a0 (C : A0 → Prop), xs = pre ++ x :: post → I pre a0 → (∀ a0, I (pre ++ [x]) a0 → C a0) → step a0 x C) : wFor1 xs a0 step k := wFor1_inv' I xs fin hs xs [] a0 rfl h0
theorem wFor1_z' {A0 : Type} {step : A0 → Int → (A0 → Prop) → Prop} {k : A0 → Prop} {hi : Int} (I : Int → A0 → Prop) (fin : ∀ a0, I hi a0 → k a0)
    (hs : ∀ (x : Int) a0 (C : A0 → Prop), x < hi → I x a0 → (∀ a0, I (x + 1) a0 → C a0) → step a0 x C) : ∀ (m : Nat) (lo : Int) a0, (hi - lo).toNat = m → lo ≤ hi → I lo a0 → wFor1 (irange lo hi) a0 step k
  | 0, lo, a0, e, h, i => by rw [irange_nil (by omega)]; exact fin a0 (by rw [show hi = lo by omega]; exact i)
  | m + 1, lo, a0, e, h, i => by rw [irange_cons (by omega)]; exact hs lo a0 _ (by omega) i fun a0 i => wFor1_z' I fin hs m (lo + 1) a0 (by omega) (by omega) i
theorem wFor1_z {A0 : Type} {lo hi : Int} {a0 : A0} {step : A0 → Int → (A0 → Prop) → Prop} {k : A0 → Prop} (hl : lo ≤ hi) (I : Int → A0 → Prop) (h0 : I lo a0) (fin : ∀ a0, I hi a0 → k a0)
    (hs : ∀ (x : Int) a0 (C : A0 → Prop), lo ≤ x → x < hi → I x a0 → (∀ a0, I (x + 1) a0 → C a0) → step a0 x C) : wFor1 (irange lo hi) a0 step k :=
  wFor1_z' (fun x a0 => lo ≤ x ∧ I x a0) (fun a0 h => fin a0 h.2) (fun x a0 C h i c => hs x a0 C i.1 h i.2 fun a0 j => c a0 ⟨by have := i.1; omega, j⟩) _ lo a0 rfl hl ⟨Int.le_refl _, h0⟩
def wJ1 {A0 : Type} (B : (A0 → Prop) → Prop) (k : A0 → Prop) : Prop := ∃ I : A0 → Prop, B I ∧ (∀ a0, I a0 → k a0)
theorem wJ1.mk {A0 : Type} {B : (A0 → Prop) → Prop} {k : A0 → Prop} (h : B k) : wJ1 B k := ⟨k, h, fun a0 h => h⟩
theorem q_cut1 {A0 : Type} (E : A0 → En) {B : (A0 → Prop) → Prop} {k : A0 → Prop} (h : wJ1 B k) (hA : ∀ I : A0 → Prop, B I → tb ⟨fun G => ∃ a0, I a0 ∧ G = E a0, Ds.rt⟩ G) (hk : ∀ a0, k a0 → u Ds (E a0)) : dSeq (dCut tb) u Ds G := by
  obtain ⟨I, hB, hI⟩ := h
  exact ⟨_, hA I hB, fun G ⟨a0,  h, e⟩ => by subst e; exact hk a0 (hI a0 h)⟩
def wFor2 {A0 A1 : Type} : List α → A0 → A1 → (A0 → A1 → α → (A0 → A1 → Prop) → Prop) → (A0 → A1 → Prop) → Prop
  | [], a0, a1, _, k => k a0 a1
  | x :: r, a0, a1, step, k => step a0 a1 x (fun a0 a1 => wFor2 r a0 a1 step k)
theorem sim_for2 {A0 A1 : Type} (e : α → D) (E : A0 → A1 → En) {step : A0 → A1 → α → (A0 → A1 → Prop) → Prop} {k : A0 → A1 → Prop}
    (hs : ∀ a0 a1, ∀ (x : α) (P : A0 → A1 → Prop) (C : En → Prop), step a0 a1 x P → (∀ a0 a1, P a0 a1 → C (E a0 a1)) → g (e x) (E a0 a1) fun G2 => tb ⟨C, Ds.rt⟩ G2) (hk : ∀ a0 a1, k a0 a1 → u Ds (E a0 a1)) : ∀ (xs : List α) a0 a1, wFor2 xs a0 a1 step k → forW g tb ⟨u Ds, Ds.rt⟩ (xs.map e) (E a0 a1)
  | [], a0, a1, h => hk _ _ h
  | x :: r, a0, a1, h => hs a0 a1 x _ _ h fun a0 a1 h => sim_for2 e E hs hk r a0 a1 h
theorem q_for2 {A0 A1 : Type} (e : α → D) (E : A0 → A1 → En) {xs : List α} {a0 : A0} {a1 : A1} {step : A0 → A1 → α → (A0 → A1 → Prop) → Prop} {k : A0 → A1 → Prop} (pi : SI ti G (xs.map e)) (hG : G = E a0 a1) (h : wFor2 xs a0 a1 step k)
    (hs : ∀ a0 a1, ∀ (x : α) (P : A0 → A1 → Prop) (C : En → Prop), step a0 a1 x P → (∀ a0 a1, P a0 a1 → C (E a0 a1)) → g (e x) (E a0 a1) fun G2 => tb ⟨C, Ds.rt⟩ G2) (hk : ∀ a0 a1, k a0 a1 → u Ds (E a0 a1)) : dSeq (dFor ti g tb) u Ds G := pi _ (by rw [hG]; exact sim_for2 e E hs hk xs a0 a1 h)
theorem wFor2_inv' {A0 A1 : Type} {step : A0 → A1 → α → (A0 → A1 → Prop) → Prop} {k : A0 → A1 → Prop} (I : List α → A0 → A1 → Prop) (xs : List α) (fin : ∀ a0 a1, I xs a0 a1 → k a0 a1)
    (hs : ∀ (pre : List α) (x : α) (post : List α) a0 a1 (C : A0 → A1 → Prop), xs = pre ++ x :: post → I pre a0 a1 → (∀ a0 a1, I (pre ++ [x]) a0 a1 → C a0 a1) → step a0 a1 x C) : ∀ (r pre : List α) a0 a1, xs = pre ++ r → I pre a0 a1 → wFor2 r a0 a1 step k
  | [], pre, a0, a1, e, h => fin a0 a1 (by rw [e, List.append_nil]; exact h)
  | x :: r, pre, a0, a1, e, h => hs pre x r a0 a1 _ e h fun a0 a1 h => wFor2_inv' I xs fin hs r (pre ++ [x]) a0 a1 (by rw [e]; simp) h
theorem wFor2_inv {A0 A1 : Type} {xs : List α} {a0 : A0} {a1 : A1} {step : A0 → A1 → α → (A0 → A1 → Prop) → Prop} {k : A0 → A1 → Prop} (I : List α → A0 → A1 → Prop) (h0 : I [] a0 a1) (fin : ∀ a0 a1, I xs a0 a1 → k a0 a1)
    (hs : ∀ (pre : List α) (x : α) (post : List α) a0 a1 (C : A0 → A1 → Prop), xs = pre ++ x :: post → I pre a0 a1 → (∀ a0 a1, I (pre ++ [x]) a0 a1 → C a0 a1) → step a0 a1 x C) : wFor2 xs a0 a1 step k := wFor2_inv' I xs fin hs xs [] a0 a1 rfl h0
theorem wFor2_z' {A0 A1 : Type} {step : A0 → A1 → Int → (A0 → A1 → Prop) → Prop} {k : A0 → A1 → Prop} {hi : Int} (I : Int → A0 → A1 → Prop) (fin : ∀ a0 a1, I hi a0 a1 → k a0 a1)
    (hs : ∀ (x : Int) a0 a1 (C : A0 → A1 → Prop), x < hi → I x a0 a1 → (∀ a0 a1, I (x + 1) a0 a1 → C a0 a1) → step a0 a1 x C) : ∀ (m : Nat) (lo : Int) a0 a1, (hi - lo).toNat = m → lo ≤ hi → I lo a0 a1 → wFor2 (irange lo hi) a0 a1 step k
  | 0, lo, a0, a1, e, h, i => by rw [irange_nil (by omega)]; exact fin a0 a1 (by rw [show hi = lo by omega]; exact i)
  | m + 1, lo, a0, a1, e, h, i => by rw [irange_cons (by omega)]; exact hs lo a0 a1 _ (by omega) i fun a0 a1 i => wFor2_z' I fin hs m (lo + 1) a0 a1 (by omega) (by omega) i
theorem wFor2_z {A0 A1 : Type} {lo hi : Int} {a0 : A0} {a1 : A1} {step : A0 → A1 → Int → (A0 → A1 → Prop) → Prop} {k : A0 → A1 → Prop} (hl : lo ≤ hi) (I : Int → A0 → A1 → Prop) (h0 : I lo a0 a1) (fin : ∀ a0 a1, I hi a0 a1 → k a0 a1)
    (hs : ∀ (x : Int) a0 a1 (C : A0 → A1 → Prop), lo ≤ x → x < hi → I x a0 a1 → (∀ a0 a1, I (x + 1) a0 a1 → C a0 a1) → step a0 a1 x C) : wFor2 (irange lo hi) a0 a1 step k :=
  wFor2_z' (fun x a0 a1 => lo ≤ x ∧ I x a0 a1) (fun a0 a1 h => fin a0 a1 h.2) (fun x a0 a1 C h i c => hs x a0 a1 C i.1 h i.2 fun a0 a1 j => c a0 a1 ⟨by have := i.1; omega, j⟩) _ lo a0 a1 rfl hl ⟨Int.le_refl _, h0⟩
def wWhile2 {A0 A1 : Type} (a0 : A0) (a1 : A1) (step : A0 → A1 → (A0 → A1 → Prop) → (A0 → A1 → Prop) → Prop) (k : A0 → A1 → Prop) : Prop := ∃ W : Nat → A0 → A1 → Prop, (∃ n, W n a0 a1) ∧ ∀ n a0 a1, W n a0 a1 → step a0 a1 (fun a0 a1 => ∃ m, m < n ∧ W m a0 a1) k
theorem q_while2 {A0 A1 : Type} (E : A0 → A1 → En) {a0 : A0} {a1 : A1} {step : A0 → A1 → (A0 → A1 → Prop) → (A0 → A1 → Prop) → Prop} {k : A0 → A1 → Prop} (hG : G = E a0 a1) (h : wWhile2 a0 a1 step k)
    (hs : ∀ a0 a1, ∀ (P X : A0 → A1 → Prop) (C D : En → Prop), step a0 a1 P X → (∀ a0 a1, P a0 a1 → C (E a0 a1)) → (∀ a0 a1, X a0 a1 → D (E a0 a1)) → tc (E a0 a1) fun G1 t => if t = true then tb ⟨C, Ds.rt⟩ G1 else D G1) (hk : ∀ a0 a1, k a0 a1 → u Ds (E a0 a1)) : dSeq (dWhile tc tb) u Ds G := by
  obtain ⟨W, ⟨n, w0⟩, hw⟩ := h
  rw [hG]
  refine ⟨fun n G => ∃ a0 a1, W n a0 a1 ∧ G = E a0 a1, ⟨n, _, _,  w0, rfl⟩, ?_⟩
  rintro n G ⟨a0, a1,  w, e⟩
  rw [e]
  exact hs a0 a1 _ _ (fun G2 => ∃ n', n' < n ∧ ∃ a0 a1, W n' a0 a1 ∧ G2 = E a0 a1) (u Ds) (hw n a0 a1 w) (fun a0 a1 ⟨m, hm, w⟩ => ⟨m, hm, _, _,  w, rfl⟩) hk
def wJ2 {A0 A1 : Type} (B : (A0 → A1 → Prop) → Prop) (k : A0 → A1 → Prop) : Prop := ∃ I : A0 → A1 → Prop, B I ∧ (∀ a0 a1, I a0 a1 → k a0 a1)
theorem wJ2.mk {A0 A1 : Type} {B : (A0 → A1 → Prop) → Prop} {k : A0 → A1 → Prop} (h : B k) : wJ2 B k := ⟨k, h, fun a0 a1 h => h⟩
def wJ3 {A0 A1 A2 : Type} (B : (A0 → A1 → A2 → Prop) → Prop) (k : A0 → A1 → A2 → Prop) : Prop := ∃ I : A0 → A1 → A2 → Prop, B I ∧ (∀ a0 a1 a2, I a0 a1 a2 → k a0 a1 a2)
theorem wJ3.mk {A0 A1 A2 : Type} {B : (A0 → A1 → A2 → Prop) → Prop} {k : A0 → A1 → A2 → Prop} (h : B k) : wJ3 B k := ⟨k, h, fun a0 a1 a2 h => h⟩
def wJ4 {A0 A1 A2 A3 : Type} (B : (A0 → A1 → A2 → A3 → Prop) → Prop) (k : A0 → A1 → A2 → A3 → Prop) : Prop := ∃ I : A0 → A1 → A2 → A3 → Prop, B I ∧ (∀ a0 a1 a2 a3, I a0 a1 a2 a3 → k a0 a1 a2 a3)
theorem wJ4.mk {A0 A1 A2 A3 : Type} {B : (A0 → A1 → A2 → A3 → Prop) → Prop} {k : A0 → A1 → A2 → A3 → Prop} (h : B k) : wJ4 B k := ⟨k, h, fun a0 a1 a2 a3 h => h⟩
def wJ5 {A0 A1 A2 A3 A4 : Type} (B : (A0 → A1 → A2 → A3 → A4 → Prop) → Prop) (k : A0 → A1 → A2 → A3 → A4 → Prop) : Prop := ∃ I : A0 → A1 → A2 → A3 → A4 → Prop, B I ∧ (∀ a0 a1 a2 a3 a4, I a0 a1 a2 a3 a4 → k a0 a1 a2 a3 a4)
theorem wJ5.mk {A0 A1 A2 A3 A4 : Type} {B : (A0 → A1 → A2 → A3 → A4 → Prop) → Prop} {k : A0 → A1 → A2 → A3 → A4 → Prop} (h : B k) : wJ5 B k := ⟨k, h, fun a0 a1 a2 a3 a4 h => h⟩
def wJ6 {A0 A1 A2 A3 A4 A5 : Type} (B : (A0 → A1 → A2 → A3 → A4 → A5 → Prop) → Prop) (k : A0 → A1 → A2 → A3 → A4 → A5 → Prop) : Prop := ∃ I : A0 → A1 → A2 → A3 → A4 → A5 → Prop, B I ∧ (∀ a0 a1 a2 a3 a4 a5, I a0 a1 a2 a3 a4 a5 → k a0 a1 a2 a3 a4 a5)
theorem wJ6.mk {A0 A1 A2 A3 A4 A5 : Type} {B : (A0 → A1 → A2 → A3 → A4 → A5 → Prop) → Prop} {k : A0 → A1 → A2 → A3 → A4 → A5 → Prop} (h : B k) : wJ6 B k := ⟨k, h, fun a0 a1 a2 a3 a4 a5 h => h⟩
def wJ7 {A0 A1 A2 A3 A4 A5 A6 : Type} (B : (A0 → A1 → A2 → A3 → A4 → A5 → A6 → Prop) → Prop) (k : A0 → A1 → A2 → A3 → A4 → A5 → A6 → Prop) : Prop := ∃ I : A0 → A1 → A2 → A3 → A4 → A5 → A6 → Prop, B I ∧ (∀ a0 a1 a2 a3 a4 a5 a6, I a0 a1 a2 a3 a4 a5 a6 → k a0 a1 a2 a3 a4 a5 a6)
theorem wJ7.mk {A0 A1 A2 A3 A4 A5 A6 : Type} {B : (A0 → A1 → A2 → A3 → A4 → A5 → A6 → Prop) → Prop} {k : A0 → A1 → A2 → A3 → A4 → A5 → A6 → Prop} (h : B k) : wJ7 B k := ⟨k, h, fun a0 a1 a2 a3 a4 a5 a6 h => h⟩
def wJ8 {A0 A1 A2 A3 A4 A5 A6 A7 : Type} (B : (A0 → A1 → A2 → A3 → A4 → A5 → A6 → A7 → Prop) → Prop) (k : A0 → A1 → A2 → A3 → A4 → A5 → A6 → A7 → Prop) : Prop := ∃ I : A0 → A1 → A2 → A3 → A4 → A5 → A6 → A7 → Prop, B I ∧ (∀ a0 a1 a2 a3 a4 a5 a6 a7, I a0 a1 a2 a3 a4 a5 a6 a7 → k a0 a1 a2 a3 a4 a5 a6 a7)
theorem wJ8.mk {A0 A1 A2 A3 A4 A5 A6 A7 : Type} {B : (A0 → A1 → A2 → A3 → A4 → A5 → A6 → A7 → Prop) → Prop} {k : A0 → A1 → A2 → A3 → A4 → A5 → A6 → A7 → Prop} (h : B k) : wJ8 B k := ⟨k, h, fun a0 a1 a2 a3 a4 a5 a6 a7 h => h⟩
def wJ9 {A0 A1 A2 A3 A4 A5 A6 A7 A8 : Type} (B : (A0 → A1 → A2 → A3 → A4 → A5 → A6 → A7 → A8 → Prop) → Prop) (k : A0 → A1 → A2 → A3 → A4 → A5 → A6 → A7 → A8 → Prop) : Prop := ∃ I : A0 → A1 → A2 → A3 → A4 → A5 → A6 → A7 → A8 → Prop, B I ∧ (∀ a0 a1 a2 a3 a4 a5 a6 a7 a8, I a0 a1 a2 a3 a4 a5 a6 a7 a8 → k a0 a1 a2 a3 a4 a5 a6 a7 a8)
theorem wJ9.mk {A0 A1 A2 A3 A4 A5 A6 A7 A8 : Type} {B : (A0 → A1 → A2 → A3 → A4 → A5 → A6 → A7 → A8 → Prop) → Prop} {k : A0 → A1 → A2 → A3 → A4 → A5 → A6 → A7 → A8 → Prop} (h : B k) : wJ9 B k := ⟨k, h, fun a0 a1 a2 a3 a4 a5 a6 a7 a8 h => h⟩
end
end DL
namespace DL
open PySem PySem.Spec L2
theorem bnd.get {α : Type} {e : α} {k : α → Prop} (h : bnd e k) : ∃ x, x = e ∧ k x := ⟨e, rfl, h e rfl⟩
theorem lt_l {i n : Nat} (h : Nat.ble (i + 1) n = true) : i < n := Nat.le_of_ble_eq_true h
section
variable {G G' G2 : En} {te ta tb tc : DTE} {tt tu : DTT} {tas : DTA} {v va vb : Vl} {d x y d1 d2 : D} {t : T} {a b c : Bool} {i j n : Nat} {as : List AV} {ds : List D} {Ds : DEnds} {u : DTS} {Q : En → Vl → Prop} {QA : En → List AV → Prop} {QT : En → Bool → Prop}
theorem q_nextS {rt : En → Vl → Prop} (h : u Ds G) : dNext ⟨u Ds, rt⟩ G := h
theorem q_env {s : DTS} (e : G = G2) (h : s Ds G2) : s Ds G := by rw [e]; exact h
def CS (i : Nat) (k : En → Prop) : En → Vl → Prop := fun G1 v => setW G1 v i k
theorem q_set (h : te G (CS i (u Ds))) : dSeq (dSet i te) u Ds G := h
theorem w_set {k : En → Prop} (hi : i < G.length) (e : G.set i (some t) = G') (h : k G') : CS i k G (.t t) := ⟨hi, by rw [e]; exact h⟩
theorem p_setB {α : Type} (f : α → T) {G' : α → En} {e : α} {k : α → Prop} (h : bnd e k) (p : SP te G (.t (f e))) (hi : i < G.length) (hG : ∀ x, G.set i (some (f x)) = G' x) (q : ∀ x, k x → u Ds (G' x)) : dSeq (dSet i te) u Ds G :=
  p_set p hi (hG e) (q e (h e rfl))
def CE (k : En → Prop) : En → Vl → Prop := fun G _ => k G
theorem q_expr (h : te G (CE (u Ds))) : dSeq (dExpr te) u Ds G := h
theorem w_expr {k : En → Prop} (h : k G) : CE k G v := h
theorem p_par (p : SA tas G [.d d1, .d d2]) (hi : i < G.length) (hj : j < G.length) (e : (G.set i (some (.fz d1))).set j (some (.fz d2)) = G') (h : u Ds G') : dSeq (dPar i j tas) u Ds G := p _ ⟨hi, hj, by rw [e]; exact h⟩
def CP (i j : Nat) (k : En → Prop) : En → List AV → Prop := fun G1 as => match as with | [.d d1, .d d2] => i < G1.length ∧ j < G1.length ∧ k ((G1.set i (some (.fz d1))).set j (some (.fz d2))) | _ => False
theorem q_par (h : tas G (CP i j (u Ds))) : dSeq (dPar i j tas) u Ds G := h
theorem w_par {k : En → Prop} (hi : i < G.length) (hj : j < G.length) (e : (G.set i (some (.fz d1))).set j (some (.fz d2)) = G') (h : k G') : CP i j k G [.d d1, .d d2] := ⟨hi, hj, by rw [e]; exact h⟩
theorem p_asg {g : DTG} (p : SP te G v) (f : FZ G v d) (sg : SG g d G G') (h : u Ds G') : dSeq (dAsg te g) u Ds G := p _ (f.w (sg _ h))
theorem p_asgB {α : Type} {g : DTG} (f : α → D) {G' : α → En} {e : α} {k : α → Prop} (h : bnd e k) (p : SP te G v) (fz : FZ G v (f e)) (sg : ∀ x, SG g (f x) G (G' x)) (q : ∀ x, k x → u Ds (G' x)) : dSeq (dAsg te g) u Ds G :=
  p_asg p fz (sg e) (q e (h e rfl))
theorem q_ret (h : te G Ds.rt) : dRet te Ds G := h
def CI (P1 P2 : En → Prop) : En → Bool → Prop := fun G1 b => if b = true then P1 G1 else P2 G1
theorem q_if {s : DTS} (h : tt G (CI (s Ds) (u Ds))) : dIf tt s u Ds G := h
theorem w_if {P1 P2 : En → Prop} (h1 : b = true → P1 G) (h2 : b = false → P2 G) : CI P1 P2 G b := q_ite h1 h2
theorem a_nil (h : QA G []) : dNil G QA := h
theorem a_cons (p : SP te G v) (f : FZ G v d) (h : tas G fun G3 as => QA G3 (.d d :: as)) : dACons te tas G QA := p _ (f.w h)
theorem a_consP (p : SP te G v) (f : FZ G v d) (h : tas G fun G3 as => QA G3 (.d d :: as)) : dAConsP te tas G QA := p _ (f.p h)
def CA (tas : DTA) (QA : En → List AV → Prop) : En → Vl → Prop := fun G1 v => fzW G1 v fun G2 x => tas G2 fun G3 as => QA G3 (.d x :: as)
theorem q_acons (h : te G (CA tas QA)) : dACons te tas G QA := h
theorem w_acons (f : FZ G v d) (h : tas G fun G3 as => QA G3 (.d d :: as)) : CA tas QA G v := f.w h
theorem a_lend (h : G[i]? = some (some t)) (q : tas G fun G3 as => QA G3 (.sl i :: as)) : dALend i tas G QA := ⟨⟨t, h⟩, q⟩
def CF (n : Nat) (F : FS) (Q : En → Vl → Prop) : En → List AV → Prop := fun G1 as => as.length = n ∧ (match lendE G1 as with | some p => F p.1 fun outs t => Q (backE p.2 as outs) (.t t) | none => False)
theorem q_call {F : FS} (h : tas G (CF n F Q)) : dCall n F tas G Q := h
theorem c_fin0 {F : FS} {ρ : Type} {P : ρ → Prop} (rt : ρ → T) (e : avD as = some ds) (hn : ds.length = n) (hF : ∀ R : En → T → Prop, (∀ r, P r → R [] (rt r)) → F (ds.map .fz) R) (q : ∀ r, P r → Q G (.t (rt r))) : CF n F Q G as := ⟨by rw [avD_len e]; exact hn, by
  rw [lend_ds e]
  exact hF _ fun r h => by show Q (backE G as []) _; rw [back_ds G e]; exact q r h⟩
theorem c_fin1 {F : FS} {π ρ : Type} {P : π → ρ → Prop} {ts : List T} {Gr : En} (pT : π → T) (rt : ρ → T) (Gp : π → En) (hn : as.length = n) (e : lendE G as = some (ts, Gr)) (hF : ∀ R : En → T → Prop, (∀ p r, P p r → R [some (pT p)] (rt r)) → F ts R) (hb : ∀ p, backE Gr as [some (pT p)] = Gp p) (q : ∀ p r, P p r → Q (Gp p) (.t (rt r))) : CF n F Q G as := ⟨hn, by
  rw [e]
  exact hF _ fun p r h => by show Q (backE Gr as [some (pT p)]) _; rw [hb]; exact q p r h⟩
def CB (k : D2) (pb : Bool) (tb : DTE) (Q : En → Vl → Prop) : En → Vl → Prop := fun G1 va => match va, pb with
  | .pk i p, true => tb G1 fun G2 vb => rdW G2 (.pk i p) fun x => rdW G2 vb fun y => k x y fun t => Q G2 (.t t)
  | va, _ => fzW G1 va fun G1' x => tb G1' fun G2 vb => rdW G2 vb fun y => k x y fun t => Q G2 (.t t)
def CB2 (k : D2) (x : D) (Q : En → Vl → Prop) : En → Vl → Prop := fun G2 vb => rdW G2 vb fun y => k x y fun t => Q G2 (.t t)
theorem q_bin {k : D2} {pb : Bool} (h : ta G (CB k pb tb Q)) : dBin k pb ta tb G Q := h
theorem w_bin1 {k : D2} {pb : Bool} {t : T} (r : FZ G (.t t) x) (h : tb G (CB2 k x Q)) : CB k pb tb Q G (.t t) := by
  obtain ⟨_, e0, c, e⟩ := r
  cases e0
  subst e
  cases pb <;> exact ⟨c, h⟩
theorem w_bin2 {k : D2} (r : RD G v y) (hk : ∀ R : T → Prop, R t → k x y R) (h : Q G (.t t)) : CB2 k x Q G v := r.rd _ (hk (fun t => Q G (.t t)) h)
def C1 (k : D1) (Q : En → Vl → Prop) : En → Vl → Prop := fun G1 va => rdW G1 va fun x => k x fun t => Q G1 (.t t)
theorem q_cb1 {k : D1} (h : ta G (C1 k Q)) : dCB1 k ta G Q := h
theorem w_cb1 {k : D1} (r : RD G v x) (hk : ∀ R : T → Prop, R t → k x R) (h : Q G (.t t)) : C1 k Q G v := r.rd _ (hk (fun t => Q G (.t t)) h)
def C2 (k : DN) (Q : En → Vl → Prop) : En → List AV → Prop := fun G1 as => withD as fun ds => k ds fun t => Q G1 (.t t)
def CV (QT : En → Bool → Prop) : En → Vl → Prop := fun G1 v => rdW G1 v fun d => isB d fun b => QT G1 b
theorem q_val (h : te G (CV QT)) : dVal te G QT := h
theorem w_val (r : RD G v (.bl b)) (h : QT G b) : CV QT G v := r.rd _ h
def COr (tu : DTT) (QT : En → Bool → Prop) : En → Bool → Prop := fun G1 c => if c = true then QT G1 true else tu G1 QT
theorem q_tor (h : tt G (COr tu QT)) : dOr tt tu G QT := h
theorem w_tori (h1 : a = true → QT G true) (h2 : a = false → tu G QT) : COr tu QT G a := q_ite h1 h2
theorem w_yes {A B : En → Prop} (h : A G) : dYes G (fun G2 b => if b = true then A G2 else B G2) := by
  show (if true = true then A G else B G); rw [if_pos rfl]; exact h
theorem x_joint0 {tt0 : DTT} {G0 : En} (E : En) {J : Bool → Prop} (h1 : (∀ z, J z → QT E z) → tt0 G0 QT) (h2 : ∀ z, J z → QT E z) : tt0 G0 QT := h1 h2
theorem sim_lc1 {α β γ : Type} {g : DTG} {vs : List Nat} (e : α → D) (eb : β → D) (E : γ → En) {step : γ → List β → α → (γ → List β → Prop) → Prop} {k : γ → List β → Prop} {QL : En → List D → Prop}
    (hs : ∀ s acc x (P : γ → List β → Prop) (C : List D → En → Prop), step s acc x P → (∀ s a ds G, P s a → ds = a.map eb → wipeE G vs = E s → C ds G) → (acc.map eb).length < 10000000 ∧ g (e x) (E s) fun G1 => tt G1 fun G2 b => if b = true then te G2 fun G3 v => fzW G3 v fun G4 d => C (acc.map eb ++ [d]) G4 else C (acc.map eb) G2)
    (hk : ∀ s acc G, k s acc → wipeE G vs = E s → QL G (acc.map eb)) : ∀ (xs : List α) (s : γ) (acc : List β) (G : En), wipeE G vs = E s → wFor2 xs s acc step k → compW g tt te vs QL (xs.map e) (acc.map eb) G
  | [], s, acc, G, hw, h => hk s acc G h hw
  | x :: r, s, acc, G, hw, h => by
    have := hs s acc x _ (fun ds G => compW g tt te vs QL (r.map e) ds G) h (fun s a ds G h ed hw => by rw [ed]; exact sim_lc1 e eb E hs hk r s a G hw h)
    show _ ∧ g (e x) (wipeE G vs) _
    rw [hw]; exact this
theorem q_lc1 {α β γ : Type} {ti : DTI} {g : DTG} {vs : List Nat} {xs : List α} {s0 : γ} (e : α → D) (eb : β → D) (E : γ → En) {step : γ → List β → α → (γ → List β → Prop) → Prop} {k : γ → List β → Prop} (pi : SI ti (E s0) (xs.map e)) (h : wFor2 xs s0 [] step k)
    (hs : ∀ s acc x (P : γ → List β → Prop) (C : List D → En → Prop), step s acc x P → (∀ s a ds G, P s a → ds = a.map eb → wipeE G vs = E s → C ds G) → (acc.map eb).length < 10000000 ∧ g (e x) (E s) fun G1 => tt G1 fun G2 b => if b = true then te G2 fun G3 v => fzW G3 v fun G4 d => C (acc.map eb ++ [d]) G4 else C (acc.map eb) G2)
    (hw : ∀ a, wipeE (E a) vs = E a) (hk : ∀ s acc, k s acc → Q (E s) (.t (.ls (acc.map eb)))) : dLc ti g tt te vs (E s0) Q := pi _ (by
  refine sim_lc1 e eb E hs (fun s acc G ha hG => ?_) xs s0 [] (E s0) (hw s0) h
  rw [hG]
  have : unwipe (E s0) (E s) vs = E s := by
    have none0 : ∀ v ∈ vs, (E s0)[v]? = none ∨ (E s0)[v]? = some none := fun v hv => by
      have e0 := hw s0
      have : (wipeE (E s0) vs)[v]? = if v ∈ vs then ((E s0)[v]?.map fun _ => none) else (E s0)[v]? := by
        have len : ∀ (G : En) (us : List Nat), (wipeE G us).length = G.length := fun G us => by
          induction us with
          | nil => rfl
          | cons u us ih => simp only [wipeE, List.length_set, ih]
        have get : ∀ (G : En) (us : List Nat) (j : Nat), (wipeE G us)[j]? = if j ∈ us then (G[j]?.map fun _ => none) else G[j]? := fun G us j => by
          induction us with
          | nil => simp [wipeE]
          | cons u us ih =>
            simp only [wipeE]
            by_cases e : u = j
            · subst e
              rw [if_pos (by simp)]
              by_cases hl : u < G.length
              · rw [List.getElem?_set_self (by rw [len]; exact hl), List.getElem?_eq_getElem hl]; rfl
              · rw [List.getElem?_eq_none (by simp [len]; omega), List.getElem?_eq_none (by omega)]; rfl
            · rw [List.getElem?_set_ne e, ih]; simp [Ne.symm e]
        exact get _ _ _
      rw [e0, if_pos hv] at this
      cases q : (E s0)[v]? with
      | none => exact .inl rfl
      | some z => rw [q] at this; right; rw [this]; rfl
    have go : ∀ us : List Nat, (∀ v ∈ us, (E s0)[v]? = none ∨ (E s0)[v]? = some none) → unwipe (E s0) (E s) us = E s := fun us => by
      induction us with
      | nil => intro _; rfl
      | cons v us ih =>
        intro hh
        show (match (E s0)[v]? with | some (some (.fz d)) => (unwipe (E s0) (E s) us).set v (some (.fz d)) | _ => unwipe (E s0) (E s) us) = E s
        rcases hh v (by simp) with q | q
        · rw [q]; exact ih fun w hw => hh w (by simp [hw])
        · rw [q]; exact ih fun w hw => hh w (by simp [hw])
    exact go vs none0
  rw [this]; exact hk s acc ha)
end
theorem k_isO {α : Type} {e : α → D} (hn : ∀ a, (match e a with | .opq _ => False | .non => False | _ => True)) {o : Option α} : ∀ R : T → Prop, R (.fz (.bl o.isNone)) → isNoneD false (eO e o) .non R := fun R h => by
  cases o with
  | none => exact h
  | some a =>
    have := hn a
    show (match e a with | .opq _ => False | .non => R (.fz (.bl (false != true))) | _ => R (.fz (.bl (false != false))))
    generalize e a = d at this ⊢
    cases d <;> first | exact this.elim | exact h
end DL
namespace TY
open PySem PySem.Spec L2 DL
section
variable {G : En} {te ta tb : DTE} {v va vb : Vl} {tas : DTA} {as : List AV} {ds : List D} {n : Nat} {i : Nat}
def iLit (xs : List D) : DTI := fun G Q => Q G xs
theorem si_lit {xs : List D} : SI (iLit xs) G xs := fun Q q => q
theorem sp_cast {te : DTE} {d d' : D} (e : d = d') (p : SP te G (.t (.fz d))) : SP te G (.t (.fz d')) := e ▸ p
theorem eO_some {α : Type} [Inhabited α] {e : α → D} {o : Option α} (c : o.isSome = true) : eO e o = e (o.getD default) := by
  obtain ⟨v, rfl⟩ := Option.isSome_iff_exists.mp c
  rfl
def irangeD (i j : Int) : List Int := (List.range (i - j).toNat).map fun k => i + (k : Nat) * (-1)
theorem sp_callB {F : FS} {ts : List T} {Gr : En} {b : Bool} (r : SA tas G as) (hl : as.length = n) (e : lendE G as = some (ts, Gr)) (ef : flatTs ts = some ds) (hF : ∀ R : En → T → Prop, R [] (.fz (.bl b)) → F (ds.map .fz) R) : SP (dCallB n F tas) G (.t (.fz (.bl b))) := fun Q q =>
  r _ ⟨hl, by
    rw [e]; simp only; rw [ef]
    exact hF (fun _ t => ∃ b, t = .fz (.bl b) ∧ Q G (.t (.fz (.bl b)))) ⟨b, rfl, q⟩⟩
def leI (a b : List Int) : Bool := !lexI b a
def sortK (l : List (List Int)) : List (List Int) := l.mergeSort leI
theorem leI_trans (a b c : List Int) (h1 : leI a b = true) (h2 : leI b c = true) : leI a c = true := by
  unfold leI at *
  simp only [Bool.not_eq_true'] at *
  exact lexI_tr c b a h2 h1
theorem leI_total (a b : List Int) : (leI a b || leI b a) = true := by
  unfold leI
  cases h : lexI b a with
  | false => rfl
  | true => rw [lexI_asymm _ _ h]; rfl
theorem sortK_perm (l : List (List Int)) : (sortK l).Perm l := List.mergeSort_perm l _
theorem sortK_sorted (l : List (List Int)) : (sortK l).Pairwise fun a b => lexI b a = false :=
  (List.pairwise_mergeSort leI_trans leI_total l).imp fun h => by unfold leI at h; simpa using h
theorem sortK_of {l m : List (List Int)} (h : m.Perm l) (s : m.Pairwise fun a b => lexI b a = false) : m = sortK l :=
  List.Perm.eq_of_pairwise (fun a b _ _ h1 h2 => lexI_eq _ _ h2 h1) s (sortK_sorted l) (h.trans (sortK_perm l).symm)
theorem k_sortU {l : List (List Int)} (c : 2 ≤ l.length → ∀ k ∈ l, k ≠ []) : ∀ R : T → Prop, R (.ls ((sortK l).map (eU D.int))) → sortedND [.lst (l.map (eU D.int))] R := fun R h => ⟨l, rfl, c, fun m hm hs => by rw [sortK_of hm hs]; exact h⟩
def ddI : List Int → List Int
  | [] => []
  | a :: r => if a ∈ r then ddI r else a :: ddI r
theorem k_lenP {l : List D} {n : Nat} (e : l.length = n) : ∀ R : T → Prop, R (.fz (D.int (n : Int))) → lenD [.tup l] R := fun R h => by subst e; exact h
end
end TY
namespace DL
open PySem PySem.Spec L2
section
variable {G G' : En} {te : DTE} {tas : DTA} {v : Vl} {d : D} {i n : Nat} {C : Addr} {f m : Str} {l l' : List (Str × T)} {u : DTS} {Ds : DEnds} {Q : En → Vl → Prop}
theorem lk_0 {x : T} {r : List (Str × T)} : look ((f, x) :: r) f = some x := by unfold look; rw [if_pos rfl]
theorem lk_s {g : Str} {x : T} {r : List (Str × T)} {o : Option T} (h : g ≠ f) (e : look r f = o) : look ((g, x) :: r) f = o := by unfold look; rw [if_neg h]; exact e
theorem lk_n : look ([] : List (Str × T)) f = none := rfl
theorem pf_n {t : T} : putFl [] f t = [(f, t)] := rfl
theorem pf_0 {x t : T} {r : List (Str × T)} : putFl ((f, x) :: r) f t = (f, t) :: r := by unfold putFl; rw [if_pos rfl]
theorem pf_s {g : Str} {x t : T} {r r' : List (Str × T)} (h : g ≠ f) (e : putFl r f t = r') : putFl ((g, x) :: r) f t = (g, x) :: r' := by unfold putFl; rw [if_neg h, e]
theorem sp_fld (h : G[i]? = some (some (.ins C l))) (hl : look l f = some (.fz d)) : SP (dFld C i f) G (.t (.fz d)) := fun Q q => by
  unfold dFld; rw [h]; exact ⟨rfl, by rw [hl]; exact q⟩
def CFp (C : Addr) (i : Nat) (f : Str) (k : En → Prop) : En → Vl → Prop := fun G1 v => fzW G1 v fun G2 d => fputW C i f k G2 (.fz d)
theorem q_fputZ (h : te G (CFp C i f (u Ds))) : dSeq (dFPutZ C i f te) u Ds G := h
theorem w_fputZ {k : En → Prop} (h : G[i]? = some (some (.ins C l))) (fz : FZ G v d) (e : putFl l f (.fz d) = l') (c : l.length < 900) (eG : G.set i (some (.ins C l')) = G') (q : k G') : CFp C i f k G v :=
  fz.w (by unfold fputW; rw [h]; exact ⟨rfl, c, by rw [e, eG]; exact q⟩)
theorem q_mth {F : FS} (h : G[i]? = some (some (.ins C l))) (hl : look l m = none) (q : dCall n F (dALend i tas) G Q) : dMth C i m n F tas G Q := ⟨by rw [h]; exact ⟨rfl, hl⟩, q⟩
def CMk (C : Addr) (n : Nat) (F : FS) (Q : En → Vl → Prop) : En → List AV → Prop := fun G1 as => withD as fun ds => ds.length + 1 = n ∧ F (.ins C [] :: ds.map .fz) fun outs t => (match outs with
  | [some t1] => t = .fz .non ∧ Q G1 (.t t1)
  | _ => False)
theorem q_make {F : FS} (h : tas G (CMk C n F Q)) : dMake C n F tas G Q := h
theorem c_make {F : FS} {ρ : Type} {P : ρ → Unit → Prop} {as : List AV} {ds : List D} (rt : ρ → T) (e : avD as = some ds) (hn : ds.length + 1 = n) (hF : ∀ R : En → T → Prop, (∀ p r, P p r → R [some (rt p)] (.fz (eN r))) → F (.ins C [] :: ds.map .fz) R) (q : ∀ r, P r () → Q G (.t (rt r))) : CMk C n F Q G as :=
  withD_w e ⟨hn, hF _ fun p r h => ⟨rfl, q p h⟩⟩
theorem st_yes : ST dYes G true := fun Q q => q
theorem sp_lcQ {α β : Type} {ti : DTE} {g : DTG} {tt : DTT} {us : List Nat} {p : Nat} {s : Option Stp} {xs : List α} (e : α → D) (de : D → α) (hde : ∀ x, de (e x) = x) (pr : α → Bool) (f : α → β) (eb : β → D) (Gx : α → En) (hi : SP ti G (.pk p s)) (ha : atE G p s = some (.ls (xs.map e))) (hp : p ∉ us) (hl : xs.length ≤ 10000000)
    (hg : ∀ x ∈ xs, SG g (e x) (wipeE G us) (Gx x)) (hk : ∀ x, atE (Gx x) p s = atE G p s) (hw : ∀ x, wipeE (Gx x) us = wipeE G us) (ht : ∀ x ∈ xs, ST tt (Gx x) (pr x)) (he : ∀ x ∈ xs, pr x = true → SP te (Gx x) (.t (.fz (eb (f x))))) (hu : unwipe G (wipeE G us) us = G) :
    SP (dLcQ ti g tt te us) G (.t (.ls (((xs.filter pr).map f).map eb))) := fun Q q => by
  refine hi _ ⟨hp, ?_⟩
  rw [ha]
  refine ⟨by rw [List.length_map]; exact hl, fun d => pr (de d), fun d => eb (f (de d)), fun d hd => ?_, ?_⟩
  · obtain ⟨x, mx, rfl⟩ := List.mem_map.mp hd
    exact hg x mx _ ⟨(hk x).trans ha, hw x, ht x mx _ ⟨by show _ = pr (de (e x)); rw [hde], fun hb => he x mx hb _ (by show _ = Vl.t (.fz (eb (f (de (e x))))); rw [hde])⟩⟩
  · rw [hu]
    have : ((xs.map e).filter fun d => pr (de d)).map (fun d => eb (f (de d))) = ((xs.filter pr).map f).map eb := by
      rw [List.filter_map, List.map_map, List.map_map]
      have e1 : xs.filter ((fun d => pr (de d)) ∘ e) = xs.filter pr := List.filter_congr fun x _ => by simp [Function.comp, hde]
      rw [e1]
      exact List.map_congr_left fun x _ => by simp [Function.comp, hde]
    rw [this]; exact q
theorem sp_lcQ0 {α β : Type} {ti : DTE} {g : DTG} {us : List Nat} {p : Nat} {s : Option Stp} {xs : List α} (e : α → D) (de : D → α) (hde : ∀ x, de (e x) = x) (f : α → β) (eb : β → D) (Gx : α → En) (hi : SP ti G (.pk p s)) (ha : atE G p s = some (.ls (xs.map e))) (hp : p ∉ us) (hl : xs.length ≤ 10000000)
    (hg : ∀ x ∈ xs, SG g (e x) (wipeE G us) (Gx x)) (hk : ∀ x, atE (Gx x) p s = atE G p s) (hw : ∀ x, wipeE (Gx x) us = wipeE G us) (he : ∀ x ∈ xs, SP te (Gx x) (.t (.fz (eb (f x))))) (hu : unwipe G (wipeE G us) us = G) :
    SP (dLcQ ti g dYes te us) G (.t (.ls ((xs.map f).map eb))) := by
  have h := sp_lcQ (tt := dYes) (te := te) e de hde (fun _ => true) f eb Gx hi ha hp hl hg hk hw (fun x _ => st_yes) (fun x hx _ => he x hx) hu
  rwa [List.filter_eq_self.mpr fun _ _ => rfl] at h
end
end DL
namespace DL
open PySem PySem.Spec L2
/-- an instance of the class that searches for a knot of most places -/
structure Sr where
  beside : List (List (Int × Bool))
  best : List Int
abbrev Sr.T (x : Sr) (C : Addr) : T := .ins C [("beside", .fz (eL (eMI D.bl) x.beside)), ("best", .fz (eL D.int x.best))]
end DL
namespace DL
open PySem PySem.Spec L2
end DL
namespace DL
open PySem PySem.Spec L2
end DL
namespace DL
open PySem PySem.Spec L2
open AutoSeq1 (wpAny_loadPart')
end DL
namespace DL
open PySem PySem.Spec L2
end DL
namespace DL
open PySem PySem.Spec L2
end DL
namespace DL
open PySem PySem.Spec L2
end DL
namespace DL
open PySem PySem.Spec L2
end DL
namespace L2
open PySem PySem.Spec PyProof.Rows
end L2
namespace DL
open PySem PySem.Spec L2
end DL
namespace TY
open PySem PySem.Spec L2 DL
end TY
namespace L2
open PySem PySem.Spec PyProof.Rows
end L2
namespace DL
open PySem PySem.Spec L2
end DL
namespace L2
open PySem PySem.Spec PyProof.Rows
end L2
namespace DL
open PySem PySem.Spec L2
end DL
namespace L2
open PySem PySem.Spec PyProof.Rows
end L2
namespace TY
open PySem PySem.Spec L2 DL
end TY
namespace DL
open PySem PySem.Spec L2
section
variable {X : Cx}
/-- the ints of two -/
def two (l : List Int) : Int × Int := (l.headD 0, (l.drop 1).headD 0)
end
end DL
namespace TY
open PySem PySem.Spec L2 DL
end TY
namespace L2
open PySem PySem.Spec PyProof.Rows
end L2
namespace DL
open PySem PySem.Spec L2
end DL
namespace L2
open PySem PySem.Spec PyProof.Rows
end L2
namespace DL
open PySem PySem.Spec L2
end DL
namespace DL
open PySem PySem.Spec L2
end DL
namespace DL
open PySem PySem.Spec L2
structure Sw where
  beside : List (List (Int × Bool))
  weights : List Int
  best : Int × List Int
abbrev Sw.T (x : Sw) (C : Addr) : T := .ins C [("beside", .fz (eL (eMI D.bl) x.beside)), ("weights", .fz (eU D.int x.weights)), ("best", .fz ((eP D.int (eL D.int)) x.best))]
end DL
namespace DL
open PySem PySem.Spec L2
end DL
namespace L2
open PySem PySem.Spec PyProof.Rows
open DL (lexI swo_I tups_sortableO)
end L2
namespace L2
open PySem PySem.Spec PyProof.Rows
open DL (lexI)
end L2
namespace TY
open PySem PySem.Spec L2 DL
end TY
namespace DL
open PySem PySem.Spec L2
end DL
namespace DL
open PySem PySem.Spec L2
end DL
namespace DL
open PySem PySem.Spec L2
def vv : V → Value
  | .ref a => .ref a
  | .ty n => .type n
  | _ => .none
inductive ClV : V → Prop
  | ref {a} : ClV (.ref a)
  | ty {n} : ClV (.ty n)
theorem ClV.eq {c : V} {u : Value} (k : ClV c) (r : RelV c u) : u = vv c := by
  cases k <;> exact r
theorem AtR.opq {K : PySem.W.Frag} {h H : Hp} {c v : V} (a : AtR K h H (.opq c) v) : v = c := by
  cases a with | of a => cases a; rfl
end DL
namespace PySem
open Sem (wp)
end PySem
namespace DL
open PySem PySem.Spec L2
end DL
namespace TY
open PySem PySem.Spec L2 DL
end TY
namespace TY
open PySem PySem.Spec L2 DL
end TY
namespace TY
open PySem PySem.Spec L2 DL
end TY
namespace DL
open PySem PySem.Spec L2
/-- an owned list is taken: a value of its own, or what a name holds -/
def takeW (G : En) (v : Vl) (k : En → List D → Prop) : Prop := match v with
  | .t (.ls l) => k G l
  | .pk i none => (match G[i]? with | some (some (.ls l)) => k (G.set i none) l | _ => False)
  | _ => False
theorem Ext.side {h H h' H' : Hp} {fp fp' xs : List Addr} (e : Ext h H fp h' H' fp') : Ext h H (fp ++ xs) h' H' (fp' ++ xs) :=
  ⟨e.gh, fun a o m eo => e.fr a o (fun z => m (by simp [z])) eo, fun a m => by
    rcases List.mem_append.mp m with m | m
    · exact (e.nw a m).imp (fun z => by simp [z]) id
    · exact .inl (by simp [m]), fun a o eo => (e.hn a o eo).imp id fun z => z.imp (fun z => by simp [z]) id⟩
section
variable {K : PySem.W.Frag} {pu : Bool} {σ : L2.St} {h H h' H' : Hp} {G G' : En} {fp fp' fv : List Addr} {vl : Vl} {v : V}
theorem Res.take {k : En → List D → Prop} (r : Res K pu σ h H G fp h' H' G' fp' vl v fv) (w : takeW G' vl k) :
    ∃ G2 f2 a vs l, Stt K h' H' G2 σ f2 ∧ v = .ref a ∧ h' a = none ∧ H' a = some (.lst vs) ∧ Ats K h' l vs ∧ a ∉ f2 ∧ Ext h H fp h' H' (f2 ++ [a]) ∧ k G2 l := by
  unfold takeW at w
  split at w
  · rename_i l
    cases r.ov with
    | t o =>
      cases o with
      | @ls a _ vs n b c =>
        have nd := r.nd
        exact ⟨G', fp', a, vs, l, r.st, rfl, n, b, c, fun m => (List.nodup_append.mp nd).2.2 a m a (by simp) rfl, r.ex, w⟩
  · rename_i i
    split at w
    · rename_i l eg
      cases r.ov with
      | pk lo e =>
        obtain ⟨v0, ev, hv⟩ := lo
        subst hv
        obtain ⟨g1, gc, g2, ef, oc, _, cut⟩ := r.st.env.slot eg ev
        cases oc with
        | @ls a _ vs n b c =>
          have ec := cut (some (.ref a))
          rw [set_same ev] at ec
          have nd := r.st.nd
          rw [ef] at nd
          obtain ⟨n1, n2, d1⟩ := List.nodup_append.mp nd
          obtain ⟨n3, n4, d2⟩ := List.nodup_append.mp n1
          refine ⟨_, g1 ++ g2, a, vs, l, ⟨r.st.sub, ec, List.nodup_append.mpr ⟨n3, n2, fun x hx y hy => d1 x (by simp [hx]) y hy⟩⟩, rfl, n, b, c, fun m => ?_, (r.drop).weak fun x m => ?_, w⟩
          · rcases List.mem_append.mp m with m | m
            · exact d2 a m a (by simp) rfl
            · exact d1 a (by simp) a m rfl
          · rw [ef]
            simp at m ⊢
            rcases m with m | m | m <;> simp [m]
    · exact w.elim
  · exact w.elim
end
def dTupM (t1 t2 t3 : DTE) : DTE := fun G Q => t1 G fun G1 v1 => fzW G1 v1 fun G2 d1 => t2 G2 fun G3 v2 => takeW G3 v2 fun G4 l => t3 G4 fun G5 v3 => fzW G5 v3 fun G6 d3 => Q G6 (.t (.tu [.fz d1, .ls l, .fz d3]))
section
variable {X : Cx} {p1 p2 p3 : Bool} {e1 e2 e3 : Expr} {t1 t2 t3 : DTE} {x1 : Nat} {pos : Pos}
theorem de_tupM (h1 : DE X p1 e1 t1) (h2 : DE X p2 e2 t2) (h3 : DE X p3 e3 t3) (s1 : starEach [e1, e2, e3] X.env = (false, eval e1 X.env) :: starEach [e2, e3] X.env := by rfl) (s2 : starEach [e2, e3] X.env = (false, eval e2 X.env) :: starEach [e3] X.env := by rfl)
    (s3 : starEach [e3] X.env = (false, eval e3 X.env) :: starEach [] X.env := by rfl) : DE X false (.Tuple [e1, e2, e3] x1 pos) (dTupM t1 t2 t3) := by
  refine pe_imp (pe_tup (pa_cons h1 (pa_cons h2 (pa_cons h3 pa_nil s3) s2) s1)) fun σ H Q ⟨h, G, fp, Q', S, w, c⟩ => ?_
  refine ⟨h, G, fp, _, S, w, fun u1 H1 ⟨ha, Ga, fa, va, fva, ra, wa⟩ => ?_⟩
  obtain ⟨hb, Gb, fb, d1, Sb, ab, eb, wb⟩ := ra.fz wa
  refine ⟨hb, Gb, fb, _, Sb, wb, fun u2 H2 ⟨hc, Gc, fc, vc, fvc, rc, wc⟩ => ?_⟩
  obtain ⟨Gd, fd, a, vs, l, Sd, ev, na, Ha, al, nm, ed, wd⟩ := rc.take wc
  subst ev
  refine ⟨hc, Gd, fd, _, Sd, wd, fun u3 H3 ⟨he, Ge, fe, ve, fve, re, we⟩ => ?_⟩
  obtain ⟨hf, Gf, ff, d3, Sf, af, ef, wf⟩ := re.fz we
  have Ha3 : H3 a = some (.lst vs) := by
    rcases ef.fr a _ nm Ha with z | ⟨z, _⟩
    · exact z
    · cases z
  have na3 : hf a = none := by
    cases q : hf a with
    | none => rfl
    | some o =>
      rcases ef.hn a o q with z | z | z
      · rw [na] at z; cases z
      · exact (nm z).elim
      · rcases z with z | ⟨us, z⟩
        · rw [Ha] at z; cases z
        · rw [Ha] at z; cases z
  have nm3 : a ∉ ff := fun m => by
    rcases ef.nw a m with z | z
    · exact nm z
    · rw [Ha] at z; cases z
  refine ⟨by show (3 : Nat) ≤ sizeLine; decide, fun p np => c _ _ ?_⟩
  have hp : hf p = none := by
    cases q : hf p with
    | none => rfl
    | some o => obtain ⟨u, z⟩ := Sf.sub.there q; rw [np] at z; cases z
  have sm : Same hf (upd hf p (.tup [u1, .ref a, u3])) := fun b o e => by rw [upd_ne (ne_of_none e hp)]; exact e
  have smH : Same H3 (upd H3 p (.tup [u1, .ref a, u3])) := fun b o e => by rw [upd_ne (ne_of_none e np)]; exact e
  have ap : a ≠ p := fun z => by subst z; rw [Ha3] at np; cases np
  have th := Sf.env.there
  have all : Ext h H fp hf H3 (ff ++ [a]) := (eb.trans ed).trans ef.side
  refine ⟨upd hf p (.tup [u1, .ref a, u3]), Gf, ff, _, [a], ⟨⟨fun b o e => ?_, Sf.env.move sm (fun b m => ?_) (fun b m => ?_), Sf.nd⟩, .t (.tu (upd_same) ?_), List.nodup_append.mpr ⟨Sf.nd, by simp, fun x hx y hy e => ?_⟩, ⟨all.gh.trans sm, fun b o m e => ?_, all.nw, fun b o e => ?_⟩, fun z => by cases z⟩, wf⟩
  · by_cases z : b = p
    · subst z; rw [upd_same] at e ⊢; exact .inl e
    · rw [upd_ne z] at e ⊢; exact Sf.sub b o e
  · obtain ⟨_, u, eu⟩ := th b m; rw [eu]; exact smH b u eu
  · obtain ⟨n, u, eu⟩ := th b m
    rw [upd_ne (fun z => by subst z; rw [eu] at np; cases np)]; exact n
  · have := Owns.cons (K := X.K) (h := upd hf p (.tup [u1, .ref a, u3])) (H := upd H3 p (.tup [u1, .ref a, u3])) (.fz (((ab.mono ed.gh).mono ef.gh).mono sm))
      (Owns.cons (.ls (by rw [upd_ne ap]; exact na3) (by rw [upd_ne ap]; exact Ha3) ((al.mono ef.gh).mono sm)) (Owns.cons (.fz (af.mono sm)) .nil))
    exact this
  · simp at hy; subst hy; subst e; exact nm3 hx
  · rcases all.fr b o m e with z | ⟨z1, ⟨ob, z2⟩, u, z3⟩
    · exact .inl (smH b o z)
    · exact .inr ⟨z1, ⟨ob, smH b _ z2⟩, u, sm b u z3⟩
  · by_cases z : b = p
    · subst z
      rw [upd_same] at e
      by_cases m : b ∈ fp
      · exact .inr (.inl m)
      · refine .inr (.inr ?_)
        cases q : H b with
        | none => exact .inl q
        | some o2 =>
          rcases all.fr b o2 m q with y | ⟨_, ⟨ob, y⟩, _⟩
          · rw [np] at y; cases y
          · rw [np] at y; cases y
    · rw [upd_ne z] at e; exact all.hn b o e
end
end DL
namespace TY
open PySem PySem.Spec L2 DL
section
variable {G G' : En} {t1 t2 t3 : DTE} {v v1 v2 v3 : Vl} {d d1 d3 : D} {l : List D} {i n : Nat} {Q : En → Vl → Prop} {tas : DTA} {as : List AV} {ds : List D} {u : DTS} {Ds : DEnds}
theorem q_tupM (p1 : SP t1 G v1) (f1 : FZ G v1 d1) (p2 : SP t2 G v2) (f2 : ∀ k : En → List D → Prop, k G' l → takeW G v2 k) (p3 : SP t3 G' v3) (f3 : FZ G' v3 d3) (h : Q G' (.t (.tu [.fz d1, .ls l, .fz d3]))) : dTupM t1 t2 t3 G Q :=
  p1 _ (f1.w (p2 _ (f2 _ (p3 _ (f3.w h)))))
theorem tk_pk (h : G[i]? = some (some (.ls l))) (e : G.set i none = G') : ∀ k : En → List D → Prop, k G' l → takeW G (.pk i none) k := fun k q => by
  unfold takeW
  dsimp only
  rw [h]
  dsimp only
  rw [e]; exact q
end
/-- what chains_told tells, or a word -/
abbrev Rnd := Str ⊕ (Int × List Int × List Int)
def Rnd.T : Rnd → T
  | .inl s => .fz (.str s)
  | .inr r => .tu [.fz (.int r.1), .ls (r.2.1.map D.int), .fz (eU D.int r.2.2)]
end TY
namespace TY
open PySem PySem.Spec L2 DL
end TY
namespace DL
open PySem PySem.Spec L2
/-- d without what stands at k -/
def dropL {κ α : Type} [DecidableEq κ] (l : List (κ × α)) (k : κ) : List (κ × α) := l.filter fun p => !decide (p.1 = k)
end DL
namespace DL
open PySem PySem.Spec L2
theorem AtT.drop {K : PySem.W.Frag} {h : Hp} (k : List Key) : ∀ {l : List (List Key × D)} {m : List (List Key × V)}, AtT K h l m → AtT K h (dropL l k) (L2.dropK m k)
  | _, _, .nil => .nil
  | _, _, .cons (k := k') a r => by
    unfold dropL L2.dropK
    by_cases e : k' = k
    · rw [List.filter_cons_of_neg (by simp [e]), List.filter_cons_of_neg (by simp [e])]
      exact AtT.drop k r
    · rw [List.filter_cons_of_pos (by simp [e]), List.filter_cons_of_pos (by simp [e])]
      exact .cons a (AtT.drop k r)
end DL
namespace L2
open PySem PySem.Spec PyProof.Rows
end L2
namespace DL
open PySem PySem.Spec L2
theorem AtR.exn {K : PySem.W.Frag} {h H : Hp} {C : Addr} {v : V} (sb : Sub h H) (a : AtR K h H (.exn C) v) : ∃ p φ, v = .ref p ∧ H p = some (.ext φ) ∧ ∀ g, φ g → exφ p C g := by
  cases a with
  | of a => cases a with | exn e f => exact ⟨_, _, rfl, sb.ext e, f⟩
end DL
namespace DL
open PySem PySem.Spec L2
end DL
namespace TY
open PySem PySem.Spec L2 DL
section
variable {G G' : En} {te ta tb tk : DTE} {v va vb : Vl} {d : D} {t t' : T} {i : Nat} {C : Addr} {l l' : List (Str × T)} {f : Str} {u : DTS} {Ds : DEnds} {Q : En → Vl → Prop} {tas : DTA}
theorem at_fld (h : G[i]? = some (some (.ins C l))) (hl : look l f = some t) : atE G i (some (.fd f)) = some t := by
  unfold atE; rw [h]; exact hl
theorem set_fld (h : G[i]? = some (some (.ins C l))) (e : setL l f t' = l') : setE G i (some (.fd f)) t' = G.set i (some (.ins C l')) := by
  unfold setE; rw [h]; dsimp only [T.setKid]; rw [e]
theorem sp_fldP (h : G[i]? = some (some (.ins C l))) (hl : look l f = some t) (hn : match t with | .fz _ => False | _ => True) : SP (dFld C i f) G (.pk i (some (.fd f))) := fun Q q => by
  unfold dFld
  rw [h]
  refine ⟨rfl, ?_⟩
  rw [hl]
  cases t <;> first | exact hn.elim | exact q
theorem rd_pf (h : G[i]? = some (some (.ins C l))) (hl : look l f = some t) (e : t.flat = some d) : RD G (.pk i (some (.fd f))) d := by
  refine ⟨fun k q => ?_, fun t e => by cases e⟩
  show (match atE G i (some (.fd f)) with | some t => rdT t k | none => False)
  rw [at_fld h hl]
  show rdT t k
  unfold rdT
  rw [e]; exact q
theorem setL_0 {k : Str} {a x : T} {r : List (Str × T)} : setL ((k, a) :: r) k x = (k, x) :: r := by simp [setL]
theorem setL_s {k k' : Str} {a x : T} {r r' : List (Str × T)} (h : k' ≠ k) (e : setL r k x = r') : setL ((k', a) :: r) k x = (k', a) :: r' := by simp [setL, h, e]
theorem q_fmeth {ty : String} {k : NT} (h : G[i]? = some (some (.ins C l))) (hl : look l f = some t) (hn : match t with | .fz _ => False | _ => True) (ht : t.ty = ty) {as : List AV} {ds : List D} (p : SA tas G as) (ea : avD as = some ds)
    (q : k t ds fun t' r => Q (setE G i (some (.fd f)) t') (.t r)) : dMeth ty k true (dFld C i f) tas G Q := by
  refine (sp_fldP h hl hn) _ ?_
  refine ⟨⟨t, at_fld h hl, ht⟩, p _ ⟨.inr rfl, withD_w ea ?_⟩⟩
  rw [at_fld h hl]; exact q
theorem p_fapp {α : Type} {e : α → D} {m : List α} {x : α} (h : G[i]? = some (some (.ins C l))) (hl : look l f = some (.ls (m.map e))) (p : SA tas G [.d (e x)]) (c : m.length < 10000000) (es : setL l f (.ls ((m ++ [x]).map e)) = l') (eG : G.set i (some (.ins C l')) = G') (q : u Ds G') :
    dSeq (dExpr (dMeth "list" appendN true (dFld C i f) tas)) u Ds G := q_seqx (q_fmeth h hl trivial rfl p rfl ⟨by simpa using c, by
  show u Ds _
  rw [show m.map e ++ [e x] = (m ++ [x]).map e by rw [List.map_append]; rfl, set_fld h es, eG]; exact q⟩)
end
structure Kp where
  n : Int
  ties : List ((Int × Int) × Bool)
  done : List (Str × (Int × Int))
abbrev Kp.T (x : Kp) (C : Addr) : T := .ins C [("n", .fz (.int x.n)), ("ties", .dt (x.ties.map fun p => (kP p.1, D.bl p.2))), ("done", .ls (x.done.map (eP D.str (eP D.int D.int))))]
end TY
namespace TY
open PySem PySem.Spec L2 DL
section
variable {G G' : En} {te : DTE} {v v' : Vl} {d : D} {t t' : T} {i : Nat} {C : Addr} {l l' : List (Str × T)} {f : Str} {u : DTS} {Ds : DEnds} {Q : En → Vl → Prop} {n : Nat} {as : List AV}
theorem p_fput (h : G[i]? = some (some (.ins C l))) (p : SP te G (.t t)) (e : putFl l f t = l') (c : l.length < 900) (eG : G.set i (some (.ins C l')) = G') (q : u Ds G') : dSeq (dFPut C i f te) u Ds G := p _ (by
  show fputW C i f (u Ds) G t
  unfold fputW; rw [h]; exact ⟨rfl, c, by rw [e, eG]; exact q⟩)
end
end TY
namespace DL
open PySem PySem.Spec L2
end DL
namespace TY
open PySem PySem.Spec L2 DL
end TY
namespace DL
open PySem PySem.Spec L2
end DL
namespace TY
open PySem PySem.Spec L2 DL
end TY
namespace DL
open PySem PySem.Spec L2
section
variable {K : PySem.W.Frag} {h H h' H' : Hp}
theorem frame {Gr : En} {σr : L2.St} {fa fr fn : List Addr} (o : OwnE K h H Gr σr fr) (ndp : (fa ++ fr).Nodup) (ex : Ext h H fa h' H' fn) (nd : fn.Nodup) : OwnE K h' H' Gr σr fr ∧ (fr ++ fn).Nodup ∧ Ext h H (fa ++ fr) h' H' (fr ++ fn) := by
  have dj : ∀ a ∈ fr, a ∉ fa := fun a m m2 => (List.nodup_append.mp ndp).2.2 a m2 a m rfl
  have hk : ∀ a ∈ fr, H' a = H a ∧ h' a = none := fun a m => by
    obtain ⟨n, u, e⟩ := o.there a m
    have hn0 : h' a = none := by
     cases q : h' a with
     | none => rfl
     | some z =>
      rcases ex.hn a z q with r | r | r
      · rw [n] at r; cases r
      · exact (dj a m r).elim
      · exact (r.no e (o.nobad a m)).elim
    exact ⟨by rw [e]; exact ex.stay hn0 (dj a m) e, hn0⟩
  refine ⟨o.move ex.gh (fun a m => (hk a m).1) fun a m => (hk a m).2, List.nodup_append.mpr ⟨(List.nodup_append.mp ndp).2.1, nd, fun x hx y hy e => ?_⟩, ⟨ex.gh, fun a u m e => ex.fr a u (fun z => m (by simp [z])) e, fun a m => ?_, fun a u e => ?_⟩⟩
  · subst e
    rcases ex.nw x hy with q | q
    · exact dj x hx q
    · obtain ⟨_, u, e⟩ := o.there x hx
      rw [q] at e; cases e
  · rcases List.mem_append.mp m with m | m
    · exact .inl (by simp [m])
    · rcases ex.nw a m with q | q
      · exact .inl (by simp [q])
      · exact .inr q
  · rcases ex.hn a u e with q | q | q
    · exact .inl q
    · exact .inr (.inl (by simp [q]))
    · exact .inr (.inr q)
end
end DL
namespace DL
open PySem PySem.Spec L2
section
variable {K : PySem.W.Frag} {h H h' H' : Hp}
theorem OwnE.owns : ∀ {ts : List T} {vs : List V} {fp : List Addr}, OwnE K h H (ts.map some) (vs.map some) fp → Owns K h H ts vs fp
  | [], [], _, .nil => .nil
  | _ :: _, _ :: _, _, .so a r => .cons a r.owns
end
end DL
namespace DL
open PySem PySem.Spec L2
section
variable {K : PySem.W.Frag} {h H h' H' : Hp}
theorem OwnE.app : ∀ {G G2 : En} {σ σ2 : L2.St} {f1 f2 : List Addr}, OwnE K h H G σ f1 → OwnE K h H G2 σ2 f2 → OwnE K h H (G ++ G2) (σ ++ σ2) (f1 ++ f2)
  | _, _, _, _, _, _, .nil, b => b
  | _, _, _, _, _, _, .no r, b => .no (r.app b)
  | _, _, _, _, _, _, .so a r, b => by rw [List.append_assoc]; exact .so a (r.app b)
end
end DL
namespace DL
open PySem PySem.Spec L2
end DL
namespace DL
open PySem PySem.Spec L2
end DL
namespace TY
open PySem PySem.Spec L2 DL
instance : Inhabited Kp := ⟨⟨0, [], []⟩⟩
end TY
namespace DL
open PySem PySem.Spec L2
end DL
namespace TY
open PySem PySem.Spec L2 DL
end TY
namespace DL
open PySem PySem.Spec L2
section
variable {K : PySem.W.Frag} {h H h' H' : Hp}
/-- what stands at a field is put out of sight -/
theorem OwnE.hide {G : En} {σ : L2.St} {fp : List Addr} {i : Nat} {C : Addr} {l : List (Str × T)} {f : Str} {t : T} {v : V} (o : OwnE K h H G σ fp) (eg : G[i]? = some (some (.ins C l))) (ef : look l f = some t) (lv : LocV H σ i (some (.fd f)) v) :
    ∃ fc fr, Own K h H t v fc ∧ OwnE K h H (G.set i (some (.ins C (setL l f (.fz (.opq v)))))) σ fr ∧ (fc ++ fr).Perm fp := by
  have e : atE G i (some (.fd f)) = some t := by unfold atE; rw [eg]; exact ef
  obtain ⟨f1, fc, f2, ef2, oc, put⟩ := o.loc e lv
  have q := put h H (.fz (.opq v)) [] (Same.refl h) (fun a m => ⟨rfl, (o.there a (by rw [ef2]; simp at m ⊢; rcases m with m | m <;> simp [m])).1⟩) (.fz .opq)
  rw [show setE G i (some (.fd f)) (.fz (.opq v)) = G.set i (some (.ins C (setL l f (.fz (.opq v))))) by unfold setE; rw [eg]; rfl, List.append_nil] at q
  refine ⟨fc, f1 ++ f2, oc, q, ?_⟩
  rw [ef2, ← List.append_assoc]
  exact List.Perm.append_right f2 List.perm_append_comm
theorem OwnE.show_ {G : En} {σ : L2.St} {fr fc : List Addr} {i : Nat} {C : Addr} {l : List (Str × T)} {f : Str} {t : T} {v : V} (o : OwnE K h H G σ fr) (eg : G[i]? = some (some (.ins C l))) (ef : look l f = some (.fz (.opq v))) (ot : Own K h H t v fc) :
    ∃ fp', OwnE K h H (G.set i (some (.ins C (setL l f t)))) σ fp' ∧ fp'.Perm (fr ++ fc) := by
  obtain ⟨v0, ev⟩ := o.has eg
  obtain ⟨g1, gc, g2, eg2, oc, _, _⟩ := o.slot eg ev
  have th := o.there
  cases oc with
  | @ins a dx _ _ m fl n1 n2 b1 b2 cf =>
    obtain ⟨u, eu⟩ := cf.has ef
    obtain ⟨q1, qc, q2, _, oz, _⟩ := cf.at ef eu
    cases oz with
    | fz x =>
      cases x
      have lv : LocV H σ i (some (.fd f)) v := ⟨_, ev, (⟨a, rfl, _, dx, m, b1, eu⟩ : Phys H (.fd f) _ _)⟩
      have e : atE G i (some (.fd f)) = some (.fz (.opq v)) := by unfold atE; rw [eg]; exact ef
      obtain ⟨f1, fk, f2, ef2, ok, put⟩ := o.loc e lv
      cases ok with
      | fz y =>
        have q := put h H t fc (Same.refl h) (fun x mx => ⟨rfl, (th x (by rw [ef2]; simpa using mx)).1⟩) ot
        rw [show setE G i (some (.fd f)) t = G.set i (some (.ins C (setL l f t))) by unfold setE; rw [eg]; rfl] at q
        refine ⟨_, q, ?_⟩
        rw [ef2, List.append_nil]
        exact perm_mid f1 fc f2
end
def dForEF (te : DTE) (g : DTG) (tb : DTS) : DTS := fun Ds G => te G fun G1 v => match v with
  | .pk i (some (.fd f)) => (match G1[i]? with
    | some (some (.ins C l)) => (match look l f with
      | some (.ls ds) => ∀ q : V, forW g tb ⟨fun G2 => ∃ l2, G2[i]? = some (some (.ins C l2)) ∧ look l2 f = some (.fz (.opq q)) ∧ Ds.nx (G2.set i (some (.ins C (setL l2 f (.ls ds))))), fun _ _ => False⟩ (enumD 0 ds) (G1.set i (some (.ins C (setL l f (.fz (.opq q))))))
      | _ => False)
    | _ => False)
  | _ => False
section
variable {X : Cx} {m : Nat} {pa : Bool} {te : DTE} {g : DTG} {tb : DTS} {body : List Stmt} {e : Expr}
theorem ds_forEF {kk : Nat} {elts : List Expr} {p pos tpos pos2 : Pos} (hp : PassesOwn (model X.prog X.w) X.A X.env X.xe) (hc : X.calm = true) (hg : Gl X "enumerate") (hm : X.mg "enumerate" = none) (he : DE X pa e te)
    (htg : DG X (List.take m) (.Tuple elts kk tpos) g) (hb : DSs X m body tb) (hs : starEach [e] X.env = [(false, eval e X.env)] := by rfl) (hs2 : starEach [e] X.env = (false, eval e X.env) :: starEach [] X.env := by rfl)
    (hf : ∀ x, foldedSetIterable (.Call (.Name "enumerate" p) [e] [] pos) X.env x = pure x := by intro _; rfl) :
    DS X m (.For (.Tuple elts kk tpos) (.Call (.Name "enumerate" p) [e] [] pos) body [] pos2) (dForEF te g tb) := by
  refine ps_imp (ps_for hp hc (pi_enum hg hm (pa_cons he pa_nil hs2) hs) htg hb hf) fun D σ H ⟨h, G, fp, Ds, S, w, kn, kr, kx⟩ => ?_
  refine ⟨h, G, fp, _, S, w, fun v H1 ⟨h1, G1, f1, vl, fv, r1, w1⟩ => ?_⟩
  dsimp only at w1
  split at w1
  · rename_i i f
    split at w1
    · rename_i C l eg
      split at w1
      · rename_i ds ef
        cases r1.ov with
        | pk lv e3 =>
          obtain ⟨fc, fr, oc, oh, pm⟩ := r1.st.env.hide eg ef lv
          have nd0 : (fc ++ fr).Nodup := pm.nodup_iff.mpr r1.st.nd
          cases oc with
          | @ls a _ vs n b ad =>
            have w1 := w1 (.ref a)
            refine ⟨a, vs, rfl, SqL.of b, ?_⟩
            have nd1 : (fr ++ [a]).Nodup := List.perm_append_comm.nodup_iff.mp nd0
            have ex1 : Ext h H fp h1 H1 (fr ++ [a]) := r1.drop.weak fun x mx => pm.mem_iff.mp (by simp only [List.mem_append] at mx ⊢; exact mx.symm)
            refine ⟨fun k mm σ' H' => mm = ds.length - k ∧ k ≤ ds.length ∧ ∃ h' G' f', Stt X.K h' H' G' σ' f' ∧ Own X.K h' H' (.ls ds) (.ref a) [a] ∧ (f' ++ [a]).Nodup ∧ Ext h H fp h' H' (f' ++ [a]) ∧ σ'.take m = σ.take m ∧ forW g tb _ ((enumD 0 ds).drop k) G',
              ⟨ds.length, rfl, Nat.zero_le _, h1, _, fr, ⟨r1.st.sub, oh, (List.nodup_append.mp nd1).1⟩, .ls n b ad, nd1, ex1, rfl, w1⟩, ?_⟩
            rintro k mm σ' H' ⟨rfl, hk, h', G', f', S', ol, nd', ex', tk', w'⟩
            have elen : (enumD 0 ds).length = ds.length := enumD_length _ _
            cases ol with
            | @ls _ _ va n2 b2 ad2 =>
              have eH : SqL X.K H' a va := SqL.of b2
              have lv2 : ds.length = va.length := ad2.length
              by_cases hlt : k < ds.length
              · obtain ⟨d, ed⟩ : ∃ d, ds[k]? = some d := ⟨_, List.getElem?_eq_getElem hlt⟩
                obtain ⟨z, ez, az⟩ := ad2.get ed
                have ee : (enumD 0 ds)[k]? = some (.tup [.int ((k : Nat) : Int), d]) := by
                  have hk2 : k < (enumD 0 ds).length := by rw [elen]; exact hlt
                  obtain ⟨x, ex, e9⟩ := enumD_get (List.getElem?_eq_getElem hk2)
                  rw [List.getElem?_eq_getElem hk2, e9]
                  rw [ed] at ex
                  cases ex
                  simp
                rw [drop_cons ee] at w'
                refine .inr ⟨⟨va, z, eH, ez⟩, fun σ2 H2 => k + 1 ≤ ds.length ∧ ∃ h' G' f', Stt X.K h' H2 G' σ2 f' ∧ Own X.K h' H2 (.ls ds) (.ref a) [a] ∧ (f' ++ [a]).Nodup ∧ Ext h H fp h' H2 (f' ++ [a]) ∧ σ2.take m = σ.take m ∧ forW g tb _ ((enumD 0 ds).drop (k + 1)) G',
                  fun σ2 H2 hh => ⟨ds.length - (k + 1), by omega, rfl, hh⟩, fun x H2 y => ?_⟩
                obtain ⟨T0, y1, rfl, nT, rfl, gg⟩ := y
                have q1 := (gg va eH).symm.trans ez
                cases q1
                obtain ⟨h2, s1, s2, s3, s4, ax⟩ := new_pair (K := X.K) (d1 := .int ((k : Nat) : Int)) (d2 := d) S'.sub nT .int az
                have S2 := S'.grow s1 s2 s3 s4
                have x2 : Ext h' H' f' h2 _ f' := Ext.same s1 s3 s4
                refine ⟨h2, G', f', _, _, S2, ax, w', fun σ3 H3 ⟨h3, G3, f3, S3, e3, t3, w3⟩ => ?_⟩
                refine ⟨h3, G3, f3, _, S3, w3, fun σ4 H4 ⟨h4, G4, f4, S4, e4, t4, w4⟩ => ?_, fun v H4 ⟨_, _, _, _, _, _, _, _, _, _, _, q⟩ => q.elim, fun x C σ4 H4 hx ⟨_, _, _, _, _, _, _, q⟩ => q.elim⟩
                have x24 := (x2.trans e3).trans e4
                obtain ⟨o4, nd4, ex4⟩ := frame (K := X.K) (Gr := [some (.ls ds)]) (σr := [some (.ref a)]) (.so (.ls n2 b2 ad2) .nil) (by rw [List.append_nil]; exact nd') x24 S4.nd
                have ow4 : Own X.K h4 H4 (.ls ds) (.ref a) [a] := by
                  have := OwnE.owns (ts := [.ls ds]) (vs := [.ref a]) o4
                  generalize e9 : [a] ++ [] = f9 at this
                  cases this with
                  | cons a1 b1 => cases b1; rw [List.append_nil, List.append_nil] at e9; subst e9; exact a1
                rw [List.append_nil] at nd4 ex4
                exact ⟨hlt, h4, G4, f4, S4, ow4, List.perm_append_comm.nodup_iff.mp nd4, (ex'.trans ex4).weak fun x mx => by simp only [List.mem_append] at mx ⊢; exact mx.symm, (t4.trans t3).trans tk', w4⟩
              · have e9 : k = ds.length := by omega
                subst e9
                rw [← elen, List.drop_length] at w'
                obtain ⟨l2, eg2, ef2, w'⟩ := w'
                refine .inl ⟨⟨va, eH, by omega⟩, ?_⟩
                obtain ⟨fz, oz, pz⟩ := S'.env.show_ eg2 ef2 (.ls n2 b2 ad2)
                exact kn σ' H' ⟨h', _, fz, ⟨S'.sub, oz, pz.nodup_iff.mpr nd'⟩, ex'.weak fun x mx => pz.mem_iff.mp mx, tk', w'⟩
      · exact w1.elim
    · exact w1.elim
  · exact w1.elim
end
end DL
namespace DL
open PySem PySem.Spec L2
/-- a tuple of the module -/
def KTup (K : PySem.W.Frag) (a : Addr) (xs : List V) : Prop :=
  ∃ (o : Obj) (its : Array Value) (n : Nat), K.lookup a = some o ∧ o.cls = .type "tuple" ∧ o.data = .seq its n ∧ its.size ≤ sizeLine ∧ Vals xs its.toList
/-- the name of a pair of ints of the module -/
def KPr (K : PySem.W.Frag) (mg : Str → Option Value) (x : Str) (a b : Int) : Prop := ∃ p, mg x = some (.ref p) ∧ KTup K p [.int a, .int b]
section
variable {X : Cx} {pa : Bool} {e : Expr} {te : DTE} {pos : Pos}
theorem de_kt {x : Str} {a b : Int} (hg : Gl X x) (T : KPr X.K X.mg x a b) (hd : (x == ("__debug__" : Str)) = false := by decide) : DE X true (.Name x pos) (dConst (.fz (.ctup [.int a, .int b]))) := by
  obtain ⟨p, hm, q⟩ := T
  exact de_const (pe_glob (v := .ref p) hg hm rfl hd) fun h => .ctup (.inr q) (.cons .int (.cons .int .nil))
def ctW (G : En) (v : Vl) (k : En → Vl → Prop) : Prop := match v with
  | .t (.fz (.tup ds)) => k G (.t (.fz (.ctup ds)))
  | .t (.fz (.ctup ds)) => k G (.t (.fz (.ctup ds)))
  | _ => False
def dCt (te : DTE) : DTE := fun G Q => te G fun G1 v => ctW G1 v Q
theorem de_ct (he : DE X pa e te) : DE X pa e (dCt te) := pe_imp he fun σ H Q ⟨h, G, fp, Q', S, w, k⟩ => by
  refine ⟨h, G, fp, _, S, w, fun v H1 ⟨h1, G1, f1, va, fva, r1, w1⟩ => k v H1 ?_⟩
  have w2 : ctW G1 va Q' := w1
  clear w1
  unfold ctW at w2
  split at w2
  · rename_i ds
    obtain ⟨S1, o, nd, ex, pu⟩ := r1
    cases o with
    | t o => cases o with
      | fz a => cases a with
        | tup ea ra => exact ⟨h1, G1, f1, _, [], ⟨S1, .t (.fz (.ctup (SqT.of ea) ra)), nd, ex, pu⟩, w2⟩
  · exact ⟨h1, G1, f1, _, _, r1, w2⟩
  · exact w2.elim
end
end DL
namespace TY
open PySem PySem.Spec L2 DL
/-- a fraction: a pair of ints, perhaps the module's own -/
def eF (p : Int × Int) : D := .ctup [.int p.1, .int p.2]
theorem eqv_eF (p q : Int × Int) : D.eqv (eF p) (eF q) = D.eqv (eP D.int D.int p) (eP D.int D.int q) := rfl
theorem ok_fr : EncOk eF 1 where
  lay p := rfl
  dep p := (ok_pair ok_int ok_int).dep p
  eq p q := (eqv_eF p q).trans ((ok_pair ok_int ok_int).eq p q)
theorem k_ixF0 {p : Int × Int} : ∀ R : T → Prop, R (.fz (.int p.1)) → ixD (eF p) (.int 0) R := fun R h => k_ix0 (a := .int p.1) (l := [.int p.2]) R h
theorem k_ixF1 {p : Int × Int} : ∀ R : T → Prop, R (.fz (.int p.2)) → ixD (eF p) (.int 1) R := fun R h => k_ix1 (a := .int p.1) (b := .int p.2) (l := []) R h
section
variable {G G' : En} {te : DTE} {p : Int × Int}
theorem sp_ct (h : SP te G (.t (.fz (eP D.int D.int p)))) : SP (dCt te) G (.t (.fz (eF p))) := fun Q q => h _ q
theorem sg_pairF {i j : Nat} {d1 d2 : D} (hi : i < G.length) (hj : j < G.length) (e : (G.set i (some (.fz d1))).set j (some (.fz d2)) = G') : SG (gT 2 (gsCons (gN i) (gsCons (gN j) gsNil))) (.ctup [d1, d2]) G G' := fun Q q =>
  ⟨rfl, hi, by simpa using hj, rfl, by rw [e]; exact q⟩
end
end TY
namespace DL
open PySem PySem.Spec L2
/-- a block that reads a tuple of owned things as data, the list within it out of sight; behind it the list is the name j's own -/
def dHideB (i j : Nat) (tb : DTS) : DTS := fun Ds G => ∃ d1 l d3, G[i]? = some (some (.tu [.fz d1, .ls l, .fz d3])) ∧ ∀ q : V, tb ⟨fun G2 => G2[j]? = some (some (.fz (.opq q))) ∧ Ds.nx (G2.set j (some (.ls l))), Ds.rt⟩ (G.set i (some (.fz (.tup [d1, .opq q, d3]))))
section
variable {X : Cx} {m : Nat} {t1 t2 u : DTS} {s1 s2 : Stmt} {rest : List Stmt} {i j : Nat}
theorem hideB_imp {D : Ends} {σ : L2.St} {H : Hp} (w : sS X m (dHideB i j t1) D σ H) : sS X m t1 D σ H := by
  obtain ⟨h, G, fp, Ds, S, ⟨d1, l, d3, eg, w⟩, kn, kr, kx⟩ := w
  obtain ⟨v, ev⟩ := S.env.has eg
  obtain ⟨f1, fc, f2, efp, o, put, _⟩ := S.env.slot eg ev
  have th := S.env.there
  cases o with
  | @tu a _ vs _ ha ow =>
    cases ow with
    | @cons _ _ v1 _ g1 _ o1 ow =>
      cases o1 with
      | fz a1 =>
        cases ow with
        | @cons _ _ v2 _ g2 _ o2 ow =>
          cases o2 with
          | @ls p _ us n b al =>
            cases ow with
            | @cons _ _ v3 _ g3 _ o3 ow =>
              cases o3 with
              | fz a3 =>
                cases ow
                have efp : fp = f1 ++ [p] ++ f2 := by simpa using efp
                have oh := put h H (.fz (.tup [d1, .opq (.ref p), d3])) [] (Same.refl h) (fun x mx => ⟨rfl, (th x (by rw [efp]; simp at mx ⊢; rcases mx with mx | mx <;> simp [mx])).1⟩) (.fz (.tup ha (.cons a1 (.cons .opq (.cons a3 .nil)))))
                rw [List.append_nil] at oh
                have pm : ((f1 ++ f2) ++ [p]).Perm fp := by
                  rw [efp, List.append_assoc, List.append_assoc]
                  exact List.Perm.append_left f1 List.perm_append_comm
                have nd1 : ((f1 ++ f2) ++ [p]).Nodup := pm.nodup_iff.mpr S.nd
                have key : ∀ {h' H' : Hp} {fn : List Addr}, fn.Nodup → Ext h H (f1 ++ f2) h' H' fn → Own X.K h' H' (.ls l) (.ref p) [p] ∧ (fn ++ [p]).Nodup ∧ Ext h H fp h' H' (fn ++ [p]) := fun {h' H' fn} nd ex => by
                  obtain ⟨o4, nd4, ex4⟩ := frame (K := X.K) (Gr := [some (.ls l)]) (σr := [some (.ref p)]) (fr := [p]) (by simpa using (OwnE.so (f2 := []) (Own.ls n b al) .nil)) nd1 ex nd
                  have ow4 : Own X.K h' H' (.ls l) (.ref p) [p] := by
                    have := OwnE.owns (ts := [.ls l]) (vs := [.ref p]) o4
                    generalize e9 : [p] = f9 at this
                    cases this with
                    | cons a1 b1 => cases b1; rw [List.append_nil] at e9; subst e9; exact a1
                  refine ⟨ow4, List.perm_append_comm.nodup_iff.mp nd4, ?_⟩
                  have mm : ∀ x, x ∈ (f1 ++ f2) ++ [p] ↔ x ∈ fp := fun x => pm.mem_iff
                  refine ⟨ex4.gh, fun x u hx => ex4.fr x u fun q => hx ((mm x).mp q), fun x hx => ?_, fun x u e => ?_⟩
                  · rcases ex4.nw x (List.perm_append_comm.mem_iff.mp hx) with q | q
                    · exact .inl ((mm x).mp q)
                    · exact .inr q
                  · rcases ex4.hn x u e with q | q | q
                    · exact .inl q
                    · exact .inr (.inl ((mm x).mp q))
                    · exact .inr (.inr q)
                refine ⟨h, _, f1 ++ f2, _, ⟨S.sub, oh, (List.nodup_append.mp nd1).1⟩, w (.ref p), fun σ' H' ⟨h', G', f', S', ex, tk, ej, q⟩ => ?_, fun v H' ⟨h', G', f', σ', vl, fv, S', ov, nd, ex, tk, q⟩ => ?_, fun x C σ' H' hx ⟨h', G', f', S', ex, tk, gl, q⟩ => ?_⟩
                · obtain ⟨ow, nd4, ex4⟩ := key S'.nd ex
                  obtain ⟨v', ev'⟩ := S'.env.has ej
                  obtain ⟨k1, kc, k2, ek, ok, putk, _⟩ := S'.env.slot ej ev'
                  cases ok with
                  | fz aq =>
                    cases aq
                    have oz := putk h' H' (.ls l) [p] (Same.refl h') (fun x mx => ⟨rfl, (S'.env.there x (by rw [ek]; simp at mx ⊢; exact mx)).1⟩) ow
                    have pk : (k1 ++ [p] ++ k2).Perm (f' ++ [p]) := by
                      rw [ek, List.append_nil, List.append_assoc, List.append_assoc]
                      exact List.Perm.append_left k1 List.perm_append_comm
                    exact kn σ' H' ⟨h', _, _, ⟨S'.sub, oz, pk.nodup_iff.mpr nd4⟩, ex4.weak fun x mx => pk.mem_iff.mp mx, tk, q⟩
                · obtain ⟨ow, nd4, ex4⟩ := key nd ex
                  exact kr v H' ⟨h', G', f', σ', vl, fv, S', ov, nd, ex4.weak fun x mx => List.mem_append_left _ mx, tk, q⟩
                · obtain ⟨ow, nd4, ex4⟩ := key S'.nd ex
                  exact kx x C σ' H' hx ⟨h', G', f', S', ex4.weak fun x mx => List.mem_append_left _ mx, tk, gl, q⟩
theorem dss_hide2 (h1 : DS X m s1 t1) (h2 : DS X m s2 t2) (h3 : DSs X m rest u) : DSs X m (s1 :: s2 :: rest) (dSeq (dHideB i j (dSeq t1 (dSeq t2 dNext))) u) :=
  pss_imp (pss_cons h1 (pss_cons h2 h3)) fun D σ H w => by
    have w : sS X m (dSeq (dHideB i j (dSeq t1 t2)) u) D σ H := w
    have a : tSeq (sS X m (dHideB i j (dSeq t1 t2))) (sS X m u) D σ H := seq_imp w
    exact seq_imp (hideB_imp a)
end
end DL
namespace TY
open PySem PySem.Spec L2 DL
/-- a table -/
structure Tb where
  many : Int
  rows : List (List (Int × Int))
  last : List (Int × Int)
  held : List Int
abbrev Tb.T (x : Tb) (C : Addr) : T := .ins C [("many", .fz (.int x.many)), ("rows", .ls (x.rows.map (eL eF))), ("last", .fz (eL eF x.last)), ("held", .ls (x.held.map D.int))]
/-- a list or a tuple -/
def eLU {α : Type} (e : α → D) (x : Bool × List α) : D := match x.1 with
  | true => .lst (x.2.map e)
  | false => .tup (x.2.map e)
section
variable {G G' G2 G3 : En} {te ti tb' : DTE} {tb : DTS} {g : DTG} {v vi vb : Vl} {d : D} {t t' : T} {i j : Nat} {C : Addr} {l l' l2 l3 : List (Str × T)} {f : Str} {u : DTS} {Ds : DEnds} {Q : En → Vl → Prop} {tas : DTA}
theorem si_seqLU {α : Type} {e : α → D} {x : Bool × List α} (p : SP te G v) (f : FZ G v (eLU e x)) : SI (iSeqD te) G (x.2.map e) := fun Q q => p _ (f.w (by
  obtain ⟨b, l⟩ := x
  cases b
  · exact q
  · exact q))
theorem p_fstoL {pb : Bool} {α : Type} {e : α → D} {m : List α} {k : Int} {x : α} (h : G[i]? = some (some (.ins C l))) (hl : look l f = some (.ls (m.map e))) (pe : SP te G v) (fz : FZ G v (e x)) (pi : SP ti G vi) (ri : RD G vi (.int k)) (hb : pb = true) (c : 0 ≤ k ∧ k < m.length)
    (es : setL l f (.ls ((m.set k.toNat x).map e)) = l') (eG : G.set i (some (.ins C l')) = G') (q : u Ds G') : dSeq (dStore pb te (dFld C i f) ti) u Ds G := by
  refine pe _ (fz.w ?_)
  refine (sp_fldP h hl trivial) _ ?_
  refine pi _ ⟨.inr hb, ri.rd _ ?_⟩
  rw [at_fld h hl]
  show (match ixN (m.map e).length k with | some j => _ | none => False)
  have ek : ixN (m.map e).length k = some k.toNat := by unfold ixN; rw [if_pos c.1, if_pos (by rw [List.length_map]; omega)]
  rw [ek]
  have es' : setL l f (.ls ((m.map e).set k.toNat (e x))) = l' := by rw [← es, List.map_set]
  show u Ds _
  rw [set_fld h es', eG]; exact q
def uEF (C : Addr) (i : Nat) (f : Str) (ds : List D) (qv : V) (k : En → Prop) : DTS := fun _ G2 => ∃ l2, G2[i]? = some (some (.ins C l2)) ∧ look l2 f = some (.fz (.opq qv)) ∧ k (G2.set i (some (.ins C (setL l2 f (.ls ds)))))
theorem p_forEF {α : Type} {e : α → D} {xs : List α} {l' : V → List (Str × T)} {G' : V → En} (h : G[i]? = some (some (.ins C l))) (hl : look l f = some (.ls (xs.map e))) (es : ∀ qv, setL l f (.fz (.opq qv)) = l' qv) (eG : ∀ qv, G.set i (some (.ins C (l' qv))) = G' qv)
    (q : ∀ qv, dSeq (dFor (iLit ((ienum xs).map (eP D.int e))) g tb) (uEF C i f (xs.map e) qv (u Ds)) ⟨fun _ => True, fun _ _ => False⟩ (G' qv)) : dSeq (dForEF (dFld C i f) g tb) u Ds G := by
  unfold dSeq dForEF
  refine (sp_fldP h hl trivial) _ ?_
  dsimp only
  rw [h]
  dsimp only
  rw [hl]
  dsimp only
  intro qv
  rw [es qv, eG qv]
  have q1 := q qv
  have q2 : dSeq (dFor (iLit (enumD 0 (xs.map e))) g tb) (uEF C i f (xs.map e) qv (u Ds)) ⟨fun _ => True, fun _ _ => False⟩ (G' qv) := by
    rw [enumD_map]
    unfold ienum at q1
    rw [List.map_map] at q1
    exact q1
  exact q2
theorem w_endEF {ds : List D} {qv : V} {k : En → Prop} {Ds : DEnds} (h : G2[i]? = some (some (.ins C l2))) (hl : look l2 f = some (.fz (.opq qv))) (es : setL l2 f (.ls ds) = l3) (eG : G2.set i (some (.ins C l3)) = G3) (q : k G3) : uEF C i f ds qv k Ds G2 :=
  ⟨l2, h, hl, by rw [es, eG]; exact q⟩
theorem p_hideB {d1 d3 : D} {m : List D} {G' : V → En} (h : G[i]? = some (some (.tu [.fz d1, .ls m, .fz d3]))) (eG : ∀ qv, G.set i (some (.fz (.tup [d1, .opq qv, d3]))) = G' qv)
    (q : ∀ qv, tb ⟨fun G2 => G2[j]? = some (some (.fz (.opq qv))) ∧ u Ds (G2.set j (some (.ls m))), Ds.rt⟩ (G' qv)) : dSeq (dHideB i j tb) u Ds G := ⟨d1, m, d3, h, fun qv => by rw [eG qv]; exact q qv⟩
theorem w_hideB {qv : V} {m : List D} {Ds : DEnds} (h : G2[j]? = some (some (.fz (.opq qv)))) (eG : G2.set j (some (.ls m)) = G3) (q : u Ds G3) : G2[j]? = some (some (.fz (.opq qv))) ∧ u Ds (G2.set j (some (.ls m))) := ⟨h, by rw [eG]; exact q⟩
theorem fz_tu {d1 d3 : D} {m : List D} : FZ G (.t (.tu [.fz d1, .ls m, .fz d3])) (.tup [d1, .lst m, d3]) := ⟨_, rfl, by simp [T.calm, T.calms], by simp [T.toD, T.toDs]⟩
theorem p_appAny {α : Type} {e : α → D} {m : List α} {x : D} {pb : Bool} (h : G[i]? = some (some (.ls (m.map e)))) (p : SA tas G [.d x]) (c : m.length < 10000000) (eG : G.set i (some (tLs eD (m.map e ++ [x]))) = G') (q : u Ds G') :
    dSeq (dExpr (dMeth "list" appendN pb (dVar i) tas)) u Ds G :=
  p_app (e := eD) (l := m.map e) (x := x) (h.trans (by rw [show (m.map e).map eD = m.map e from List.map_id' _])) p (by simpa using c) eG q
theorem any_none {α : Type} (e : α → D) (h : ∀ x, D.eqv (e x) .non = false) : ∀ l : List α, ((l.map e).any fun z => D.eqv z .non) = false
  | [] => rfl
  | x :: r => by rw [List.map_cons, List.any_cons, h x, any_none e h r]; rfl
theorem k_inN {α : Type} {e : α → D} {l : List α} {b : Bool} (h : ∀ x, D.eqv (e x) .non = false) (hb : b = false) (s : (D.lst (l.map e)).shp) : ∀ R : T → Prop, R (.fz (.bl b)) → inD false .non (.lst (l.map e)) R := fun R q =>
  ⟨by unfold D.shp; decide +kernel, s, by rw [any_none e h l]; subst hb; exact q⟩
/-- a decoder of what is told apart by == -/
noncomputable def dcE {α : Type} [Inhabited α] (e : α → D) (d : D) : α := by
  classical exact if h : ∃ x, e x = d then Classical.choose h else default
theorem dcE_eq {α : Type} [Inhabited α] [DecidableEq α] {e : α → D} {k : Nat} (ok : EncOk e k) (x : α) : dcE e (e x) = x := by
  unfold dcE
  have h : ∃ y, e y = e x := ⟨x, rfl⟩
  rw [dif_pos h]
  have q := Classical.choose_spec h
  generalize Classical.choose h = y at q
  have e1 := ok.eq y x
  rw [q, ok.eq x x] at e1
  have : decide (y = x) = true := by rw [← e1]; simp
  exact of_decide_eq_true this
end
end TY
namespace TY
open PySem PySem.Spec L2 DL
section
variable {G : En} {te : DTE} {v : Vl}
theorem k_lenF {p : Int × Int} : ∀ R : T → Prop, R (.fz (D.int (2 : Int))) → lenD [eF p] R := fun R h => h
theorem si_seqFR {p : Int × Int} (h : SP te G v) (f : FZ G v (eF p)) : SI (iSeqD te) G ([p.1, p.2].map D.int) := fun Q q => h _ (f.w q)
end
end TY
namespace DL
open PySem PySem.Spec L2
end DL
namespace TY
open PySem PySem.Spec L2 DL
end TY
namespace DL
open PySem PySem.Spec L2
structure PenN where
  c : List Int
  at_ : Int
  left : Int
abbrev PenN.T (p : PenN) : T := .ls [.scr p.c, .int p.at_, .int p.left]
structure Pen where
  m : Int
  t : Int
  w : List Int
abbrev Pen.T (p : Pen) : T := penM p.m p.t (p.w.map D.int)
structure NOk (p : PenN) : Prop where
  at0 : 0 ≤ p.at_
  left0 : 0 ≤ p.left
/-- a sound pen, c draws at most so far -/
structure POk (p : Pen) (c : Nat) : Prop where
  m0 : 0 ≤ p.m
  m1 : p.m < 2147483629
  t0 : 0 ≤ p.t
  tc : p.t ≤ c
  w0 : ∀ x ∈ p.w, 0 ≤ x
theorem POk.up {p : Pen} {c c' : Nat} (h : POk p c) (hc : c ≤ c') : POk p c' := ⟨h.m0, h.m1, h.t0, Int.le_trans h.tc (Int.ofNat_le.mpr hc), h.w0⟩
def w__law_next (p : PenN) (m : Int) (Q : PenN → Int → Prop) : Prop := NOk p ∧ 0 < m ∧ m < 2 ^ 62 ∧ ∀ p' x, NOk p' → 0 ≤ x → x < m → Q p' x
theorem drawN {p : PenN} {m : Int} {Q : PenN → Int → Prop} (hp : NOk p) (h1 : 0 < m) (h2 : m < 2 ^ 62) (h : ∀ p x, NOk p → 0 ≤ x → x < m → Q p x) : w__law_next p m Q := ⟨hp, h1, h2, h⟩
def F__law_fill : FS := fun ts R => ∃ c a : Int, ts = [.fz (.int c), .fz (.int a)] ∧ 0 ≤ a ∧ ∀ x : Int, 0 ≤ x → R [] (.fz (.int x))
def F__law_next : FS := fun ts R => ∃ (p : PenN) (m : Int) (P : PenN → Int → Prop), ts = [p.T, .fz (.int m)] ∧ w__law_next p m P ∧ ∀ (p_ : PenN) (r : Int), P p_ r → R [some p_.T] (.fz (.int r))
end DL
namespace DL
open PySem PySem.Spec L2
abbrev Web := Int × List (Int × Int)
theorem nodup_sub_len {α : Type} [DecidableEq α] : ∀ (a b : List α), a.Nodup → (∀ x ∈ a, x ∈ b) → a.length ≤ b.length
  | [], _, _, _ => Nat.zero_le _
  | x :: r, b, nd, h => by
    obtain ⟨h1, h2⟩ := List.nodup_cons.mp nd
    have ih := nodup_sub_len r (b.erase x) h2 fun y m => (List.mem_erase_of_ne (fun e => by subst e; exact h1 m)).mpr (h y (by simp [m]))
    have hx : x ∈ b := h x (by simp)
    rw [List.length_erase_of_mem hx] at ih
    have : 0 < b.length := List.length_pos_of_mem hx
    simp only [List.length_cons]; omega
theorem irange_nodup (lo hi : Int) : (irange lo hi).Nodup := by
  unfold irange
  exact List.Pairwise.map _ (fun a b n e => n (by omega)) List.nodup_range
theorem irange_sorted (lo hi : Int) : (irange lo hi).Pairwise (· < ·) := by
  unfold irange
  refine List.Pairwise.map _ (fun a b h => ?_) List.pairwise_lt_range
  omega
def ltP (a b : Int × Int) : Prop := a.1 < b.1 ∨ (a.1 = b.1 ∧ a.2 < b.2)
def pairsN (n : Int) : List (Int × Int) := (irange 0 n).flatMap fun a => (irange (a + 1) n).map fun b => (a, b)
theorem mem_pairsN {n : Int} {p : Int × Int} : p ∈ pairsN n ↔ 0 ≤ p.1 ∧ p.1 < p.2 ∧ p.2 < n := by
  unfold pairsN
  rw [List.mem_flatMap]
  constructor
  · rintro ⟨a, ha, hp⟩
    obtain ⟨b, hb, rfl⟩ := List.mem_map.mp hp
    have h1 := mem_irange.mp ha; have h2 := mem_irange.mp hb
    exact ⟨h1.1, by show a < b; omega, h2.2⟩
  · rintro ⟨h1, h2, h3⟩
    exact ⟨p.1, mem_irange.mpr ⟨h1, by omega⟩, List.mem_map.mpr ⟨p.2, mem_irange.mpr ⟨by omega, h3⟩, rfl⟩⟩
theorem flat_sorted {n : Int} {l : List Int} (f : Int → List Int) (hl : l.Pairwise (· < ·)) (hf : ∀ a ∈ l, (f a).Pairwise (· < ·)) : (l.flatMap fun a => (f a).map fun b => (a, b)).Pairwise ltP := by
  induction l with
  | nil => exact .nil
  | cons a r ih =>
    rw [List.flatMap_cons]
    obtain ⟨h1, h2⟩ := List.pairwise_cons.mp hl
    refine List.pairwise_append.mpr ⟨?_, ih h2 (fun x hx => hf x (by simp [hx])), ?_⟩
    · exact List.Pairwise.map _ (fun x y h => .inr ⟨rfl, h⟩) (hf a (by simp))
    · rintro p hp q hq
      obtain ⟨b, _, rfl⟩ := List.mem_map.mp hp
      obtain ⟨c, hc, hq⟩ := List.mem_flatMap.mp hq
      obtain ⟨d, _, rfl⟩ := List.mem_map.mp hq
      exact .inl (h1 c hc)
theorem pairsN_sorted (n : Int) : (pairsN n).Pairwise ltP := flat_sorted (n := n) (fun a => irange (a + 1) n) (irange_sorted 0 n) fun a _ => irange_sorted _ _
theorem ltP_irrefl (a : Int × Int) : ¬ ltP a a := by unfold ltP; omega
theorem sorted_nodup {l : List (Int × Int)} (h : l.Pairwise ltP) : l.Nodup := h.imp fun {a b} hab => by
  intro e
  subst e
  exact ltP_irrefl a hab
theorem sorted_ext {l m : List (Int × Int)} (hl : l.Pairwise ltP) (hm : m.Pairwise ltP) (h : ∀ p, p ∈ l ↔ p ∈ m) : l = m :=
  List.Perm.eq_of_pairwise (fun a b _ _ h1 h2 => by unfold ltP at h1 h2; omega) hl hm ((List.perm_ext_iff_of_nodup (sorted_nodup hl) (sorted_nodup hm)).mpr h)
theorem sortI_eq {l m : List Int} (hl : l.Nodup) (hm : m.Pairwise (· < ·)) (h : ∀ p, p ∈ l ↔ p ∈ m) : sortI l = m := by
  refine (sortI_of ?_ (hm.imp fun h => by omega)).symm
  exact (List.perm_ext_iff_of_nodup (hm.imp fun h => by omega) hl).mpr fun p => (h p).symm
structure IsWeb (w : Web) : Prop where
  n0 : 0 ≤ w.1
  mem : ∀ p ∈ w.2, 0 ≤ p.1 ∧ p.1 < p.2 ∧ p.2 < w.1
  srt : w.2.Pairwise ltP
/-- the web of n places whose ties are those that r tells -/
def mkW (n : Int) (r : Int → Int → Bool) : Web := (n, (pairsN n).filter fun p => r p.1 p.2)
theorem mem_mkW {n : Int} {r : Int → Int → Bool} {p : Int × Int} : p ∈ (mkW n r).2 ↔ (0 ≤ p.1 ∧ p.1 < p.2 ∧ p.2 < n) ∧ r p.1 p.2 = true := by
  show p ∈ List.filter _ _ ↔ _
  rw [List.mem_filter, mem_pairsN]
theorem mkW_web {n : Int} (h : 0 ≤ n) (r : Int → Int → Bool) : IsWeb (mkW n r) := ⟨h, fun p m => (mem_mkW.mp m).1, List.Pairwise.filter _ (pairsN_sorted n)⟩
theorem web_ext {a b : Web} (ha : IsWeb a) (hb : IsWeb b) (hn : a.1 = b.1) (h : ∀ i j, 0 ≤ i → i < j → j < a.1 → ((i, j) ∈ a.2 ↔ (i, j) ∈ b.2)) : a = b := by
  refine Prod.ext hn (sorted_ext ha.srt hb.srt fun p => ⟨fun m => ?_, fun m => ?_⟩)
  · have := ha.mem p m; exact (h p.1 p.2 this.1 this.2.1 this.2.2).mp m
  · have := hb.mem p m; exact (h p.1 p.2 this.1 this.2.1 (by omega)).mpr m
/-- a web by its ties -/
theorem web_mk {w : Web} (h : IsWeb w) : w = mkW w.1 fun a b => inl (a, b) w.2 :=
  web_ext h (mkW_web h.n0 _) rfl fun i j h1 h2 h3 => by rw [mem_mkW, inl_iff]; exact ⟨fun m => ⟨⟨h1, h2, h3⟩, m⟩, fun m => m.2⟩
/-- whether two places are tied -/
def tie (w : Web) (a b : Int) : Bool := inl (min a b, max a b) w.2
theorem tie_comm (w : Web) (a b : Int) : tie w a b = tie w b a := by unfold tie; rw [Int.min_comm, Int.max_comm]
theorem tie_lt {w : Web} {a b : Int} (h : a ≤ b) : tie w a b = inl (a, b) w.2 := by unfold tie; rw [Int.min_eq_left h, Int.max_eq_right h]
theorem tie_mem {w : Web} {a b : Int} (h : a < b) : tie w a b = true ↔ (a, b) ∈ w.2 := by rw [tie_lt (Int.le_of_lt h), inl_iff]
theorem tie_self {w : Web} (h : IsWeb w) (a : Int) : tie w a a = false := by
  rw [tie_lt (Int.le_refl _), inl_not]
  intro m; have := h.mem _ m; exact absurd this.2.1 (Int.lt_irrefl _)
theorem tie_rng {w : Web} (h : IsWeb w) {a b : Int} (t : tie w a b = true) : 0 ≤ a ∧ a < w.1 ∧ 0 ≤ b ∧ b < w.1 ∧ a ≠ b := by
  unfold tie at t
  rw [inl_iff] at t
  have := h.mem _ t
  dsimp only at this
  omega
theorem tie_mk {n : Int} {r : Int → Int → Bool} {a b : Int} (ha : 0 ≤ a) (hb : b < n) (h : a < b) : tie (mkW n r) a b = r a b := by
  rw [Bool.eq_iff_iff, tie_mem h, mem_mkW]
  exact ⟨fun m => m.2, fun m => ⟨⟨ha, h, hb⟩, m⟩⟩
/-- .. where the relation is symmetric -/
theorem tie_mk' {n : Int} {r : Int → Int → Bool} (hs : ∀ a b, r a b = r b a) {a b : Int} (ha : 0 ≤ a) (hb : 0 ≤ b) (ha' : a < n) (hb' : b < n) (h : a ≠ b) : tie (mkW n r) a b = r a b := by
  rcases Int.lt_or_gt_of_ne h with h | h
  · exact tie_mk ha hb' h
  · rw [tie_comm, tie_mk hb ha' h, hs]
theorem web_len {w : Web} (h : IsWeb w) : w.2.length ≤ (w.1.toNat) * (w.1.toNat) := by
  have h1 : w.2.Sublist (pairsN w.1) := by
    have := web_mk h
    have e : w.2 = (mkW w.1 fun a b => inl (a, b) w.2).2 := congrArg (·.2) this
    rw [e]; exact List.filter_sublist
  refine Nat.le_trans h1.length_le ?_
  unfold pairsN
  rw [List.length_flatMap]
  have : ∀ l : List Int, (∀ a ∈ l, 0 ≤ a) → (l.map fun a => ((irange (a + 1) w.1).map fun b => (a, b)).length).sum ≤ l.length * w.1.toNat := fun l => by
    induction l with
    | nil => intro _; simp
    | cons a r ih =>
      intro hl
      have h1 := ih fun x hx => hl x (by simp [hx])
      have h2 := hl a (by simp)
      rw [List.map_cons, List.sum_cons, List.length_map, irange_length, List.length_cons, Nat.add_mul]
      omega
  refine Nat.le_trans (this _ fun a ha => (mem_irange.mp ha).1) ?_
  rw [irange_length, Int.sub_zero]
  exact Nat.le_refl _
theorem web_len24 {w : Web} (h : IsWeb w) (hn : w.1 ≤ 24) : w.2.length ≤ 576 := by
  have h1 := web_len h
  have h2 : w.1.toNat ≤ 24 := by omega
  exact Nat.le_trans h1 (Nat.mul_le_mul h2 h2)
theorem pairsN_rows (n : Int) (r : Int → Int → Bool) : (mkW n r).2 = (irange 0 n).flatMap fun a => ((irange (a + 1) n).filter fun b => r a b).map fun b => (a, b) := by
  show List.filter _ (pairsN n) = _
  unfold pairsN
  rw [List.filter_flatMap]
  congr 1
  funext a
  rw [List.filter_map]; rfl
theorem irange_snoc {lo hi : Int} (h : lo ≤ hi) : irange lo (hi + 1) = irange lo hi ++ [hi] := by
  unfold irange
  rw [show (hi + 1 - lo).toNat = (hi - lo).toNat + 1 by omega, List.range_succ, List.map_append]
  congr 1
  simp only [List.map_cons, List.map_nil]
  rw [show lo + (((hi - lo).toNat : Nat) : Int) = hi by omega]
/-- the rows up to a -/
def rowsTo (n : Int) (r : Int → Int → Bool) (a : Int) : List (Int × Int) := (irange 0 a).flatMap fun a => ((irange (a + 1) n).filter fun b => r a b).map fun b => (a, b)
theorem rowsTo_0 (n : Int) (r : Int → Int → Bool) : rowsTo n r 0 = [] := by unfold rowsTo; rw [irange_nil (Int.le_refl _)]; rfl
theorem rowsTo_n (n : Int) (r : Int → Int → Bool) : rowsTo n r n = (mkW n r).2 := by rw [pairsN_rows]; rfl
theorem rowsTo_snoc {n a : Int} (r : Int → Int → Bool) (h : 0 ≤ a) : rowsTo n r (a + 1) = rowsTo n r a ++ ((irange (a + 1) n).filter fun b => r a b).map fun b => (a, b) := by
  unfold rowsTo; rw [irange_snoc h, List.flatMap_append]; simp
theorem rowsTo_len {n a : Int} (r : Int → Int → Bool) (h : 0 ≤ a) (han : a ≤ n) : (rowsTo n r a).length ≤ a.toNat * n.toNat := by
  unfold rowsTo
  rw [List.length_flatMap]
  have : ∀ l : List Int, (∀ a ∈ l, 0 ≤ a) → (l.map fun a => (((irange (a + 1) n).filter fun b => r a b).map fun b => (a, b)).length).sum ≤ l.length * n.toNat := fun l => by
    induction l with
    | nil => intro _; simp
    | cons a r' ih =>
      intro hl
      have h1 := ih fun x hx => hl x (by simp [hx])
      have h2 := hl a (by simp)
      have h3 := List.length_filter_le (fun b => r a b) (irange (a + 1) n)
      rw [irange_length] at h3
      rw [List.map_cons, List.sum_cons, List.length_map, List.length_cons, Nat.add_mul]
      omega
  refine Nat.le_trans (this _ fun a ha => (mem_irange.mp ha).1) ?_
  rw [irange_length, Int.sub_zero]
  exact Nat.le_refl _
/-- within row a, up to b -/
def rowTo (r : Int → Int → Bool) (a b : Int) : List (Int × Int) := ((irange (a + 1) b).filter fun b => r a b).map fun b => (a, b)
theorem rowTo_0 (r : Int → Int → Bool) (a : Int) : rowTo r a (a + 1) = [] := by unfold rowTo; rw [irange_nil (Int.le_refl _)]; rfl
theorem rowTo_yes {r : Int → Int → Bool} {a b : Int} (h : a < b) (hr : r a b = true) : rowTo r a (b + 1) = rowTo r a b ++ [(a, b)] := by
  unfold rowTo; rw [irange_snoc (by omega), List.filter_append]; simp [hr]
theorem rowTo_no {r : Int → Int → Bool} {a b : Int} (h : a < b) (hr : r a b = false) : rowTo r a (b + 1) = rowTo r a b := by
  unfold rowTo; rw [irange_snoc (by omega), List.filter_append]; simp [hr]
theorem rowTo_len {r : Int → Int → Bool} {a b : Int} : (rowTo r a b).length ≤ (b - (a + 1)).toNat := by
  unfold rowTo
  rw [List.length_map]
  have h3 := List.length_filter_le (fun b => r a b) (irange (a + 1) b)
  rw [irange_length] at h3; exact h3
theorem rows_web {n : Int} {l : List (Int × Int)} (h0 : 0 ≤ n) (h : l.Sublist (pairsN n)) : IsWeb (n, l) := ⟨h0, fun p m => mem_pairsN.mp (h.subset m), (pairsN_sorted n).sublist h⟩
end DL
namespace TY
namespace Sx
/-- a sum over rows -/
def sumQ : Nat → (Nat → Rat) → Rat
  | 0, _ => 0
  | m + 1, f => sumQ m f + f m
theorem sumQ_congr {m : Nat} {f g : Nat → Rat} (h : ∀ k < m, f k = g k) : sumQ m f = sumQ m g := by
  induction m with
  | zero => rfl
  | succ m ih => show sumQ m f + f m = sumQ m g + g m; rw [ih fun k hk => h k (by omega), h m (by omega)]
theorem sumQ_add {m : Nat} {f g : Nat → Rat} : sumQ m (fun k => f k + g k) = sumQ m f + sumQ m g := by
  induction m with
  | zero => show (0 : Rat) = 0 + 0; grind
  | succ m ih => show sumQ m (fun k => f k + g k) + (f m + g m) = (sumQ m f + f m) + (sumQ m g + g m); rw [ih]; grind
theorem sumQ_mul {m : Nat} {a : Rat} {f : Nat → Rat} : sumQ m (fun k => a * f k) = a * sumQ m f := by
  induction m with
  | zero => show (0 : Rat) = a * 0; grind
  | succ m ih => show sumQ m (fun k => a * f k) + a * f m = a * (sumQ m f + f m); rw [ih]; grind
theorem sumQ_zero {m : Nat} {f : Nat → Rat} (h : ∀ k < m, f k = 0) : sumQ m f = 0 := by
  induction m with
  | zero => rfl
  | succ m ih => show sumQ m f + f m = 0; rw [ih fun k hk => h k (by omega), h m (by omega)]; grind
theorem sumQ_one {m j : Nat} {f : Nat → Rat} (hj : j < m) (h : ∀ k < m, k ≠ j → f k = 0) : sumQ m f = f j := by
  induction m with
  | zero => omega
  | succ m ih =>
    show sumQ m f + f m = f j
    by_cases e : j = m
    · subst e
      rw [sumQ_zero fun k hk => h k (by omega) (by omega)]; grind
    · rw [ih (by omega) fun k hk ne => h k (by omega) ne, h m (by omega) (fun q => e q.symm)]; grind
theorem sumQ_nonneg {m : Nat} {f : Nat → Rat} (h : ∀ k < m, 0 ≤ f k) : 0 ≤ sumQ m f := by
  induction m with
  | zero => show (0 : Rat) ≤ 0; grind
  | succ m ih => show 0 ≤ sumQ m f + f m; have := ih fun k hk => h k (by omega); have := h m (by omega); grind
theorem sumQ_pos {m : Nat} {f : Nat → Rat} (h : 0 < sumQ m f) : ∃ k < m, 0 < f k := by
  refine Classical.byContradiction fun n => ?_
  have : 0 ≤ sumQ m (fun k => (-1) * f k) := sumQ_nonneg fun k hk => by
    have : ¬ 0 < f k := fun p => n ⟨k, hk, p⟩
    grind
  rw [sumQ_mul] at this
  grind
theorem sumQ_swap {m l : Nat} {f : Nat → Nat → Rat} : sumQ m (fun i => sumQ l (fun j => f i j)) = sumQ l (fun j => sumQ m (fun i => f i j)) := by
  induction m with
  | zero => exact (sumQ_zero fun j _ => rfl).symm
  | succ m ih => show sumQ m (fun i => sumQ l (fun j => f i j)) + sumQ l (fun j => f m j) = sumQ l (fun j => sumQ m (fun i => f i j) + f m j); rw [ih, sumQ_add]
/-- sums of rows -/
def Sp (m : Nat) (R : Nat → Nat → Rat) (f : Nat → Rat) : Prop := ∃ c : Nat → Rat, ∀ v, f v = sumQ m fun k => c k * R k v
section
variable {m : Nat} {R R' R0 : Nat → Nat → Rat} {f g : Nat → Rat}
theorem Sp.row {k : Nat} (hk : k < m) : Sp m R (R k) := ⟨fun i => if i = k then 1 else 0, fun v => by
  rw [sumQ_one (j := k) hk fun i _ ne => by show (if i = k then (1 : Rat) else 0) * R i v = 0; rw [if_neg ne]; grind]
  show R k v = (if k = k then (1 : Rat) else 0) * R k v
  rw [if_pos rfl]; grind⟩
theorem Sp.add (a : Sp m R f) (b : Sp m R g) : Sp m R fun v => f v + g v := by
  obtain ⟨c, hc⟩ := a
  obtain ⟨d, hd⟩ := b
  refine ⟨fun k => c k + d k, fun v => ?_⟩
  show f v + g v = _
  rw [hc v, hd v, ← sumQ_add]
  exact sumQ_congr fun k _ => by grind
theorem Sp.mul (a : Sp m R f) (x : Rat) : Sp m R fun v => x * f v := by
  obtain ⟨c, hc⟩ := a
  refine ⟨fun k => x * c k, fun v => ?_⟩
  show x * f v = _
  rw [hc v, ← sumQ_mul]
  exact sumQ_congr fun k _ => by grind
theorem Sp.congr (a : Sp m R f) (h : ∀ v, g v = f v) : Sp m R g := by
  obtain ⟨c, hc⟩ := a
  exact ⟨c, fun v => (h v).trans (hc v)⟩
theorem Sp.trans (a : Sp m R' f) (h : ∀ k < m, Sp m R (R' k)) : Sp m R f := by
  obtain ⟨c, hc⟩ := a
  have : ∀ l ≤ m, Sp m R fun v => sumQ l fun k => c k * R' k v := fun l hl => by
    induction l with
    | zero => exact ⟨fun _ => 0, fun v => by show (0 : Rat) = _; rw [sumQ_zero fun _ _ => by grind]⟩
    | succ l ih => exact (ih (by omega)).add ((h l (by omega)).mul (c l))
  exact (this m (Nat.le_refl _)).congr hc
end
def pivR (R : Nat → Nat → Rat) (c k : Nat) : Nat → Nat → Rat := fun j v => if j = k then R k v / R k c else R j v - R j c * (R k v / R k c)
def pivL (R : Nat → Nat → Rat) (L : Nat → Rat) (c k : Nat) : Nat → Rat := fun v => L v - L c * (R k v / R k c)
def pivH (H : Nat → Nat) (c k : Nat) : Nat → Nat := fun j => if j = k then c else H j
/-- rows that hold unit columns, of the same span as R0, L by L0; N the last column -/
structure Eqv (m N : Nat) (R0 : Nat → Nat → Rat) (L0 : Nat → Rat) (R : Nat → Nat → Rat) (L : Nat → Rat) (H : Nat → Nat) : Prop where
  sp1 : ∀ j < m, Sp m R0 (R j)
  sp2 : ∀ j < m, Sp m R (R0 j)
  spL : Sp m R0 fun v => L v - L0 v
  un : ∀ i < m, ∀ j < m, R i (H j) = if i = j then 1 else 0
  unL : ∀ j < m, L (H j) = 0
  hl : ∀ j < m, H j < N
section
variable {m N : Nat} {R0 R R' : Nat → Nat → Rat} {L0 L L' : Nat → Rat} {H H' : Nat → Nat} {c k : Nat}
theorem piv_sp1 (hk : k < m) (j : Nat) (hj : j < m) : Sp m R (pivR R c k j) := by
  by_cases e : j = k
  · refine ((Sp.row hk).mul (1 / R k c)).congr fun v => ?_
    show (if j = k then _ else _) = _
    rw [if_pos e]; grind
  · refine ((Sp.row hj).add ((Sp.row hk).mul (-(R j c / R k c)))).congr fun v => ?_
    show (if j = k then _ else _) = _
    rw [if_neg e]; grind
theorem piv_sp2 (hk : k < m) (hp : R k c ≠ 0) (j : Nat) (hj : j < m) : Sp m (pivR R c k) (R j) := by
  have ek : ∀ v, pivR R c k k v = R k v / R k c := fun v => by unfold pivR; rw [if_pos rfl]
  by_cases e : j = k
  · refine ((Sp.row (R := pivR R c k) hk).mul (R k c)).congr fun v => ?_
    rw [ek, e]; grind
  · refine ((Sp.row (R := pivR R c k) hj).add ((Sp.row (R := pivR R c k) hk).mul (R j c))).congr fun v => ?_
    rw [ek, show pivR R c k j v = R j v - R j c * (R k v / R k c) by unfold pivR; rw [if_neg e]]; grind
theorem Eqv.inj (E : Eqv m N R0 L0 R L H) {i j : Nat} (hi : i < m) (hj : j < m) (e : H i = H j) : i = j := by
  have := E.un i hi i hi
  rw [if_pos rfl, e, E.un i hi j hj] at this
  refine Classical.byContradiction fun n => ?_
  rw [if_neg n] at this
  grind
theorem Eqv.turn (E : Eqv m N R0 L0 R L H) (hk : k < m) (hc : c < N) (hp : R k c ≠ 0) (nb : ∀ j < m, H j ≠ c) : Eqv m N R0 L0 (pivR R c k) (pivL R L c k) (pivH H c k) where
  sp1 := fun j hj => (piv_sp1 hk j hj).trans E.sp1
  sp2 := fun j hj => (E.sp2 j hj).trans fun i hi => piv_sp2 hk hp i hi
  spL := (E.spL.add ((E.sp1 k hk).mul (-(L c / R k c)))).congr fun v => by unfold pivL; grind
  un := fun i hi j hj => by
    unfold pivR pivH
    by_cases ej : j = k
    · rw [if_pos ej]
      by_cases ei : i = k
      · rw [if_pos ei, if_pos (ei.trans ej.symm)]; grind
      · rw [if_neg ei, if_neg (fun q => ei (q.trans ej))]; grind
    · rw [if_neg ej]
      have uk : R k (H j) = 0 := by rw [E.un k hk j hj, if_neg (fun q => ej q.symm)]
      by_cases ei : i = k
      · rw [if_pos ei, uk, if_neg (fun q => ej (q.symm.trans ei))]; grind
      · rw [if_neg ei, uk, E.un i hi j hj]; grind
  unL := fun j hj => by
    unfold pivL pivH
    by_cases ej : j = k
    · rw [if_pos ej]; grind
    · rw [if_neg ej, E.unL j hj, E.un k hk j hj, if_neg (fun q => ej q.symm)]; grind
  hl := fun j hj => by
    unfold pivH
    by_cases ej : j = k
    · rw [if_pos ej]; exact hc
    · rw [if_neg ej]; exact E.hl j hj
/-- what lies in the span is told by its values at the held columns -/
theorem Eqv.at (E : Eqv m N R0 L0 R L H) {f : Nat → Rat} (s : Sp m R0 f) (v : Nat) : f v = sumQ m fun k => f (H k) * R k v := by
  obtain ⟨d, hd⟩ := s.trans E.sp2
  rw [hd v]
  refine sumQ_congr fun k hk => ?_
  rw [hd (H k), sumQ_one (j := k) hk fun i hi ne => by rw [E.un i hi k hk, if_neg ne]; grind, E.un k hk k hk, if_pos rfl]
  grind
theorem Eqv.uniq (E : Eqv m N R0 L0 R L H) (E' : Eqv m N R0 L0 R' L' H) : (∀ j < m, ∀ v, R' j v = R j v) ∧ ∀ v, L' v = L v := by
  refine ⟨fun j hj v => ?_, fun v => ?_⟩
  · rw [E.at (E'.sp1 j hj) v, sumQ_one (j := j) hj fun i hi ne => by rw [E'.un j hj i hi, if_neg (Ne.symm ne)]; grind, E'.un j hj j hj, if_pos rfl]
    grind
  · have s : Sp m R0 fun v => L' v - L v := (E'.spL.add (E.spL.mul (-1))).congr fun v => by grind
    have := E.at s v
    rw [sumQ_zero fun i hi => by rw [E.unL i hi, E'.unL i hi]; grind] at this
    grind
/-- the other last row, by this one -/
theorem Eqv.other (E : Eqv m N R0 L0 R L H) {L2 : Nat → Rat} (s : Sp m R0 fun v => L2 v - L0 v) (v : Nat) : L2 v = L v + sumQ m fun k => L2 (H k) * R k v := by
  have s : Sp m R0 fun v => L2 v - L v := (s.add (E.spL.mul (-1))).congr fun v => by grind
  have := E.at s v
  rw [sumQ_congr (g := fun k => L2 (H k) * R k v) fun k hk => by rw [E.unL k hk]; grind] at this
  grind
end
end Sx
end TY
namespace TY
namespace Sx
theorem pigeon : ∀ (B : Nat) (f : Nat → Nat), (∀ t ≤ B, f t < B) → ∃ s t, s < t ∧ t ≤ B ∧ f s = f t
  | 0, f, h => absurd (h 0 (Nat.le_refl _)) (by omega)
  | B + 1, f, h => by
    by_cases e : ∃ s ≤ B, f s = f (B + 1)
    · obtain ⟨s, hs, e⟩ := e
      exact ⟨s, B + 1, by omega, by omega, e⟩
    · have ne : ∀ s ≤ B, f s ≠ f (B + 1) := fun s hs q => e ⟨s, hs, q⟩
      have hy := h (B + 1) (by omega)
      obtain ⟨s, t, st, tB, q⟩ := pigeon B (fun s => if f s < B then f s else f (B + 1)) fun t ht => by
        show (if f t < B then f t else f (B + 1)) < B
        have := h t (by omega)
        have := ne t ht
        split <;> omega
      refine ⟨s, t, st, by omega, ?_⟩
      have q : (if f s < B then f s else f (B + 1)) = (if f t < B then f t else f (B + 1)) := q
      have a1 := h s (by omega)
      have a2 := h t (by omega)
      have b1 := ne s (by omega)
      have b2 := ne t (by omega)
      split at q <;> split at q <;> omega
/-- the held columns as one number -/
def code (N : Nat) (H : Nat → Nat) : Nat → Nat
  | 0 => 0
  | m + 1 => code N H m * N + H m
theorem code_lt {N : Nat} {H : Nat → Nat} : ∀ {m : Nat}, (∀ j < m, H j < N) → code N H m < N ^ m
  | 0, _ => by show 0 < 1; omega
  | m + 1, h => by
    have := code_lt (N := N) (H := H) (m := m) fun j hj => h j (by omega)
    have hm := h m (by omega)
    show code N H m * N + H m < N ^ m * N
    have : (code N H m + 1) * N ≤ N ^ m * N := Nat.mul_le_mul_right N this
    rw [Nat.add_mul] at this; omega
theorem code_inj {N : Nat} {H H' : Nat → Nat} : ∀ {m : Nat}, (∀ j < m, H j < N) → (∀ j < m, H' j < N) → code N H m = code N H' m → ∀ j < m, H j = H' j
  | 0, _, _, _ => fun j hj => absurd hj (by omega)
  | m + 1, h, h', e => by
    have hm := h m (by omega)
    have hm' := h' m (by omega)
    have e : code N H m * N + H m = code N H' m * N + H' m := e
    have e1 : (code N H m * N + H m) % N = H m := by rw [Nat.mul_comm, Nat.mul_add_mod, Nat.mod_eq_of_lt hm]
    have e2 : (code N H' m * N + H' m) % N = H' m := by rw [Nat.mul_comm, Nat.mul_add_mod, Nat.mod_eq_of_lt hm']
    have em : H m = H' m := by rw [← e1, e, e2]
    have ec : code N H m = code N H' m := by
      have : code N H m * N = code N H' m * N := by omega
      exact Nat.eq_of_mul_eq_mul_right (by omega) this
    intro j hj
    by_cases q : j = m
    · subst q; exact em
    · exact code_inj (m := m) (fun j hj => h j (by omega)) (fun j hj => h' j (by omega)) ec j (by omega)
/-- one turn as the program chooses it -/
structure Turn (m N : Nat) (R : Nat → Nat → Rat) (L : Nat → Rat) (H : Nat → Nat) (c k : Nat) : Prop where
  cN : c < N
  neg : L c < 0
  least : ∀ v < c, 0 ≤ L v
  km : k < m
  pos : 0 < R k c
  best : ∀ j < m, 0 < R j c → R k N / R k c < R j N / R j c ∨ (R k N / R k c = R j N / R j c ∧ H k ≤ H j)
structure Run (m N : Nat) (R0 : Nat → Nat → Rat) (L0 : Nat → Rat) (R : Nat → Nat → Nat → Rat) (L : Nat → Nat → Rat) (H : Nat → Nat → Nat) (c k : Nat → Nat) : Prop where
  eqv : ∀ t, Eqv m N R0 L0 (R t) (L t) (H t)
  feas : ∀ t, ∀ j < m, 0 ≤ R t j N
  turn : ∀ t, Turn m N (R t) (L t) (H t) (c t) (k t)
  nR : ∀ t, R (t + 1) = pivR (R t) (c t) (k t)
  nL : ∀ t, L (t + 1) = pivL (R t) (L t) (c t) (k t)
  nH : ∀ t, H (t + 1) = pivH (H t) (c t) (k t)
section
variable {m N : Nat} {R0 : Nat → Nat → Rat} {L0 : Nat → Rat} {R : Nat → Nat → Nat → Rat} {L : Nat → Nat → Rat} {H : Nat → Nat → Nat} {c k : Nat → Nat}
theorem div_nonneg {a b : Rat} (h : 0 ≤ a) (hb : 0 < b) : 0 ≤ a / b := by
  have e : a / b = a * b⁻¹ := by grind
  rw [e]
  exact Rat.mul_nonneg h (Rat.le_of_lt (Rat.inv_pos.mpr hb))
theorem Turn.free {R : Nat → Nat → Rat} {L : Nat → Rat} {H : Nat → Nat} {c k : Nat} (E : Eqv m N R0 L0 R L H) (T : Turn m N R L H c k) : ∀ j < m, H j ≠ c := fun j hj e => by
  have := E.unL j hj
  have := T.neg
  rw [← e] at this
  grind
theorem run_ends (S : Run m N R0 L0 R L H c k) : False := by
  obtain ⟨s, t, st, _, ec⟩ := pigeon (N ^ m) (fun i => code N (H i) m) fun i _ => code_lt (S.eqv i).hl
  have eH : ∀ j < m, H s j = H t j := code_inj (S.eqv s).hl (S.eqv t).hl ec
  -- the tables are the same
  have E' : Eqv m N R0 L0 (R t) (L t) (H s) := ⟨(S.eqv t).sp1, (S.eqv t).sp2, (S.eqv t).spL, fun i hi j hj => by rw [eH j hj]; exact (S.eqv t).un i hi j hj, fun j hj => by rw [eH j hj]; exact (S.eqv t).unL j hj, (S.eqv s).hl⟩
  obtain ⟨eR, eL⟩ := (S.eqv s).uniq E'
  -- what is asked of each moment
  have persist : ∀ P : Nat → Prop, (∀ i, s ≤ i → i < t → P i → P (i + 1)) → (P t → P s) → ∀ a, s ≤ a → a ≤ t → P a → ∀ i, s ≤ i → i ≤ t → P i := fun P up back a sa at_ pa => by
    have from_ : ∀ b, s ≤ b → P b → ∀ d, b + d ≤ t → P (b + d) := fun b sb pb d => by
      induction d with
      | zero => exact fun _ => pb
      | succ d ih => exact fun h => up (b + d) (by omega) (by omega) (ih (by omega))
    have pt : P t := by have := from_ a sa pa (t - a) (by omega); rwa [show a + (t - a) = t by omega] at this
    intro i si it
    have := from_ s (Nat.le_refl _) (back pt) (i - s) (by omega)
    rwa [show s + (i - s) = i by omega] at this
  -- the worth grows
  have grow : ∀ i, L (i + 1) N = L i N - L i (c i) * (R i (k i) N / R i (k i) (c i)) := fun i => by rw [S.nL]; rfl
  have th0 : ∀ i, 0 ≤ R i (k i) N / R i (k i) (c i) := fun i => div_nonneg (S.feas i _ (S.turn i).km) (S.turn i).pos
  have step : ∀ i, L i N ≤ L (i + 1) N := fun i => by
    rw [grow]
    have h1 := (S.turn i).neg
    have := Rat.mul_nonneg (show 0 ≤ -(L i (c i)) by grind) (th0 i)
    grind
  have mono : ∀ i d, L i N ≤ L (i + d) N := fun i d => by
    induction d with
    | zero => exact Rat.le_refl
    | succ d ih => exact Rat.le_trans ih (step (i + d))
  have zero : ∀ i, s ≤ i → i < t → R i (k i) N = 0 := fun i si it => by
    have a := mono s (i - s)
    have b := mono (i + 1) (t - (i + 1))
    rw [show s + (i - s) = i by omega] at a
    rw [show i + 1 + (t - (i + 1)) = t by omega, eL N] at b
    have g := grow i
    have h1 := (S.turn i).neg
    have h2 := th0 i
    have h3 := Rat.mul_nonneg (show 0 ≤ -(L i (c i)) by grind) h2
    have h4 : L i (c i) * (R i (k i) N / R i (k i) (c i)) = 0 := by grind
    have h5 : R i (k i) N / R i (k i) (c i) = 0 := by
      rcases Rat.mul_eq_zero.mp h4 with q | q
      · grind
      · exact q
    have h6 := (S.turn i).pos
    grind
  -- the greatest column that comes in
  obtain ⟨T, ⟨a, sa, at_, ca⟩, top⟩ : ∃ T, (∃ i, s ≤ i ∧ i < t ∧ c i = T) ∧ ∀ i, s ≤ i → i < t → c i ≤ T := by
    have : ∀ d, s + d < t → ∃ T, (∃ i, s ≤ i ∧ i < t ∧ c i = T) ∧ ∀ i, s ≤ i → i ≤ s + d → c i ≤ T := fun d => by
      induction d with
      | zero => exact fun h => ⟨c s, ⟨s, Nat.le_refl _, st, rfl⟩, fun i h1 h2 => by rw [show i = s by omega]; exact Nat.le_refl _⟩
      | succ d ih =>
        intro h
        obtain ⟨T, e, u⟩ := ih (by omega)
        by_cases q : c (s + (d + 1)) ≤ T
        · refine ⟨T, e, fun i h1 h2 => ?_⟩
          by_cases z : i = s + (d + 1)
          · rw [z]; exact q
          · exact u i h1 (by omega)
        · refine ⟨c (s + (d + 1)), ⟨_, by omega, h, rfl⟩, fun i h1 h2 => ?_⟩
          by_cases z : i = s + (d + 1)
          · rw [z]; exact Nat.le_refl _
          · have := u i h1 (by omega); omega
    obtain ⟨T, e, u⟩ := this (t - s - 1) (by omega)
    exact ⟨T, e, fun i h1 h2 => u i h1 (by omega)⟩
  have freeT : ∀ j < m, H a j ≠ T := fun j hj => ca ▸ (S.turn a).free (S.eqv a) j hj
  -- it goes out, too
  obtain ⟨b, sb, bt, hb⟩ : ∃ b, s ≤ b ∧ b < t ∧ H b (k b) = T := by
    refine Classical.byContradiction fun no => ?_
    have no : ∀ i, s ≤ i → i < t → H i (k i) ≠ T := fun i h1 h2 h3 => no ⟨i, h1, h2, h3⟩
    obtain ⟨j, hj, e⟩ := persist (fun i => ∃ j < m, H i j = T) (fun i h1 h2 ⟨j, hj, e⟩ => ⟨j, hj, by
      rw [S.nH]; unfold pivH
      rw [if_neg (show ¬ j = k i from fun q => no i h1 h2 (by rw [← q]; exact e))]; exact e⟩) (fun ⟨j, hj, e⟩ => ⟨j, hj, (eH j hj).trans e⟩) (a + 1) (by omega) (by omega) ⟨k a, (S.turn a).km, by rw [S.nH]; unfold pivH; rw [if_pos rfl]; exact ca⟩ a sa (by omega)
    exact freeT j hj e
  have Eb := S.eqv b
  have Tb := S.turn b
  have neT : c b ≠ T := fun q => Tb.free Eb (k b) Tb.km (hb.trans q.symm)
  have ltT : c b < T := by have := top b sb bt; omega
  have leastA : ∀ v < T, 0 ≤ L a v := fun v hv => (S.turn a).least v (by omega)
  have negA : L a T < 0 := by have := (S.turn a).neg; rw [ca] at this; exact this
  have id := Eb.other (S.eqv a).spL (c b)
  have pos : 0 < sumQ m fun i => L a (H b i) * R b i (c b) := by
    have := Tb.neg
    have := leastA _ ltT
    grind
  obtain ⟨i, hi, pi⟩ := sumQ_pos pos
  have nik : i ≠ k b := fun q => by
    rw [q, hb] at pi
    have := Tb.pos
    have := Rat.mul_pos (show 0 < -(L a T) by grind) this
    grind
  obtain ⟨r, er⟩ : ∃ r, H b i = r := ⟨_, rfl⟩
  rw [er] at pi
  have nrT : r ≠ T := fun q => nik (Eb.inj hi Tb.km (by rw [er, hb, q]))
  have nz : L a r ≠ 0 := fun q => by rw [q] at pi; grind
  have freeR : ∀ j < m, H a j ≠ r := fun j hj q => nz (by rw [← q]; exact (S.eqv a).unL j hj)
  -- r comes in
  have comes : ∃ d, s ≤ d ∧ d < t ∧ c d = r := by
    refine Classical.byContradiction fun no => ?_
    have no : ∀ d, s ≤ d → d < t → c d ≠ r := fun d h1 h2 h3 => no ⟨d, h1, h2, h3⟩
    have := persist (fun d => ∀ j < m, H d j ≠ r) (fun d h1 h2 P j hj => by
      rw [S.nH]; unfold pivH
      split
      · exact no d h1 h2
      · exact P j hj) (fun P j hj q => P j hj ((eH j hj).symm.trans q)) a sa (by omega) freeR b sb (by omega)
    exact this i hi er
  obtain ⟨d, d1, d2, d3⟩ := comes
  have rlt : r < T := by have := top d d1 d2; omega
  have rpos : 0 < L a r := by have := leastA r rlt; grind
  have Rpos : 0 < R b i (c b) := by
    refine Classical.byContradiction fun n => ?_
    have := Rat.mul_nonneg (Rat.le_of_lt rpos) (show 0 ≤ -(R b i (c b)) by grind)
    grind
  have Rz : R b i N = 0 := by
    refine persist (fun d => ∀ j < m, H d j = r → R d j N = 0) (fun d h1 h2 P j hj e => ?_) (fun P j hj e => by rw [← eR j hj]; exact P j hj ((eH j hj).symm.trans e)) a sa (by omega) (fun j hj e => absurd e (freeR j hj)) b sb (by omega) i hi er
    have z := zero d h1 h2
    rw [S.nR]
    unfold pivR
    rw [S.nH] at e
    unfold pivH at e
    by_cases q : j = k d
    · rw [if_pos q, z]; grind
    · rw [if_neg q] at e
      rw [if_neg q, P j hj e, z]; grind
  rcases Tb.best i hi Rpos with q | ⟨_, q⟩
  · rw [zero b sb bt, Rz] at q
    grind
  · rw [hb, er] at q
    omega
end
end Sx
end TY
namespace TY
namespace Sx
/-- all entries are quotients of numbers to M, by one bottom -/
structure IB (M m : Nat) (R : Nat → Nat → Rat) (L : Nat → Rat) : Prop where
  ex : ∃ δ : Int, δ ≠ 0 ∧ δ.natAbs ≤ M ∧ (∀ j < m, ∀ v, ∃ z : Int, z.natAbs ≤ M ∧ R j v = (z : Rat) / (δ : Rat)) ∧ ∀ v, ∃ z : Int, z.natAbs ≤ M ∧ L v = (z : Rat) / (δ : Rat)
theorem int_ne {z : Int} (h : z ≠ 0) : (z : Rat) ≠ 0 := fun e => h (by exact_mod_cast e)
theorem two_le {a b c d : Int} {M : Nat} (ha : a.natAbs ≤ M) (hb : b.natAbs ≤ M) (hc : c.natAbs ≤ M) (hd : d.natAbs ≤ M) : (a * b - c * d).natAbs ≤ 2 * M * M := by
  have h1 : (a * b).natAbs ≤ M * M := by rw [Int.natAbs_mul]; exact Nat.mul_le_mul ha hb
  have h2 : (c * d).natAbs ≤ M * M := by rw [Int.natAbs_mul]; exact Nat.mul_le_mul hc hd
  have h3 : 2 * M * M = M * M + M * M := by rw [Nat.mul_assoc]; omega
  omega
theorem one_le {a b : Int} {M : Nat} (ha : a.natAbs ≤ M) (hb : b.natAbs ≤ M) : (a * b).natAbs ≤ 2 * M * M := by
  have := two_le (c := 0) (d := 0) ha hb (by simp) (by simp)
  simpa using this
theorem IB.turn {M m : Nat} {R : Nat → Nat → Rat} {L : Nat → Rat} {c k : Nat} (h : IB M m R L) (hk : k < m) (hp : R k c ≠ 0) : IB (2 * M * M) m (pivR R c k) (pivL R L c k) := by
  obtain ⟨δ, d0, dM, hR, hL⟩ := h
  obtain ⟨w, wM, ew⟩ := hR k hk c
  have w0 : w ≠ 0 := fun e => hp (by rw [ew, e]; simp; grind)
  have dq := int_ne d0
  have wq := int_ne w0
  have quo : ∀ v, ∀ z : Int, R k v = (z : Rat) / (δ : Rat) → R k v / R k c = (z : Rat) / (w : Rat) := fun v z e => by rw [e, ew]; grind
  have sub : ∀ (y z a : Int), (y : Rat) / (δ : Rat) - (a : Rat) / (δ : Rat) * ((z : Rat) / (w : Rat)) = ((y * w - a * z : Int) : Rat) / ((δ * w : Int) : Rat) := fun y z a => by
    rw [Rat.intCast_sub, Rat.intCast_mul, Rat.intCast_mul, Rat.intCast_mul]; grind
  refine ⟨δ * w, Int.mul_ne_zero d0 w0, one_le dM wM, fun j hj v => ?_, fun v => ?_⟩
  · obtain ⟨z, zM, ez⟩ := hR k hk v
    unfold pivR
    by_cases e : j = k
    · rw [if_pos e, quo v z ez]
      refine ⟨δ * z, one_le dM zM, ?_⟩
      rw [Rat.intCast_mul, Rat.intCast_mul]; grind
    · obtain ⟨y, yM, ey⟩ := hR j hj v
      obtain ⟨a, aM, ea⟩ := hR j hj c
      rw [if_neg e, quo v z ez, ey, ea]
      exact ⟨y * w - a * z, two_le yM wM aM zM, sub y z a⟩
  · obtain ⟨z, zM, ez⟩ := hR k hk v
    obtain ⟨y, yM, ey⟩ := hL v
    obtain ⟨a, aM, ea⟩ := hL c
    unfold pivL
    rw [quo v z ez, ey, ea]
    exact ⟨y * w - a * z, two_le yM wM aM zM, sub y z a⟩
def bnd2 : Nat → Nat
  | 0 => 1
  | d + 1 => 2 * bnd2 d * bnd2 d
theorem bnd2_le {a b : Nat} (h : a ≤ b) : bnd2 a ≤ bnd2 b := by
  induction b with
  | zero => rw [Nat.le_zero.mp h]; exact Nat.le_refl _
  | succ b ih =>
    by_cases e : a = b + 1
    · rw [e]; exact Nat.le_refl _
    · refine Nat.le_trans (ih (by omega)) ?_
      show bnd2 b ≤ 2 * bnd2 b * bnd2 b
      have : 1 ≤ bnd2 b := by
        clear ih h e
        induction b with
        | zero => exact Nat.le_refl _
        | succ b ih => show 1 ≤ 2 * bnd2 b * bnd2 b; have := Nat.mul_le_mul (show 1 ≤ 2 * bnd2 b by omega) ih; omega
      have := Nat.mul_le_mul_left (bnd2 b) (show 1 ≤ 2 * bnd2 b by omega)
      rw [Nat.mul_comm (2 * bnd2 b)]; omega
theorem IB.mono {M M' m : Nat} {R : Nat → Nat → Rat} {L : Nat → Rat} (h : IB M m R L) (hM : M ≤ M') : IB M' m R L := by
  obtain ⟨δ, d0, dM, hR, hL⟩ := h
  exact ⟨δ, d0, by omega, fun j hj v => (hR j hj v).imp fun z q => ⟨by omega, q.2⟩, fun v => (hL v).imp fun z q => ⟨by omega, q.2⟩⟩
section
variable {m N : Nat} {R0 Rs : Nat → Nat → Rat} {L0 Ls : Nat → Rat} {Hs : Nat → Nat}
/-- from any table to the target's columns -/
theorem reach (Es : Eqv m N R0 L0 Rs Ls Hs) : ∀ (l : List Nat) (d : Nat) (R : Nat → Nat → Rat) (L : Nat → Rat) (H : Nat → Nat), Eqv m N R0 L0 R L H → IB (bnd2 d) m R L → (∀ j < m, j ∈ l ∨ ∃ i < m, H i = Hs j) →
    ∃ R' L' H', Eqv m N R0 L0 R' L' H' ∧ IB (bnd2 (d + l.length)) m R' L' ∧ ∀ j < m, ∃ i < m, H' i = Hs j
  | [], d, R, L, H, E, B, h => ⟨R, L, H, E, B, fun j hj => (h j hj).elim (fun q => nomatch q) id⟩
  | j0 :: l, d, R, L, H, E, B, h => by
    by_cases skip : m ≤ j0 ∨ ∃ i < m, H i = Hs j0
    · obtain ⟨R', L', H', E', B', h'⟩ := reach Es l d R L H E B fun j hj => by
        rcases h j hj with q | q
        · rcases List.mem_cons.mp q with q | q
          · subst q
            exact skip.elim (fun z => absurd hj (by omega)) .inr
          · exact .inl q
        · exact .inr q
      exact ⟨R', L', H', E', B'.mono (bnd2_le (by simp)), h'⟩
    · have hj0 : j0 < m := Classical.byContradiction fun q => skip (.inl (by omega))
      have nb : ∀ i < m, H i ≠ Hs j0 := fun i hi q => skip (.inr ⟨i, hi, q⟩)
      -- a row to turn at
      obtain ⟨k, hk, out, hp⟩ : ∃ k, k < m ∧ (∀ j < m, H k ≠ Hs j) ∧ R k (Hs j0) ≠ 0 := by
        refine Classical.byContradiction fun no => ?_
        have z := E.at (Es.sp1 j0 hj0) (Hs j0)
        rw [Es.un j0 hj0 j0 hj0, if_pos rfl] at z
        rw [sumQ_zero fun k hk => ?_] at z
        · grind
        · by_cases q : ∃ j < m, H k = Hs j
          · obtain ⟨j, hj, e⟩ := q
            rw [e, Es.un j0 hj0 j hj, if_neg fun z => nb k hk (by rw [e, ← z])]
            grind
          · have : R k (Hs j0) = 0 := Classical.byContradiction fun ne => no ⟨k, hk, fun j hj e => q ⟨j, hj, e⟩, ne⟩
            rw [this]; grind
      have E2 := E.turn hk (Es.hl j0 hj0) hp nb
      obtain ⟨R', L', H', E', B', h'⟩ := reach Es l (d + 1) _ _ _ E2 (B.turn hk hp) fun j hj => by
        by_cases ej : j = j0
        · exact .inr ⟨k, hk, by unfold pivH; rw [if_pos rfl, ej]⟩
        · rcases h j hj with q | ⟨i, hi, q⟩
          · rcases List.mem_cons.mp q with q | q
            · exact absurd q ej
            · exact .inl q
          · exact .inr ⟨i, hi, by unfold pivH; rw [if_neg fun z => out j hj (by rw [← z]; exact q)]; exact q⟩
      exact ⟨R', L', H', E', by rw [List.length_cons, show d + (l.length + 1) = d + 1 + l.length by omega]; exact B', h'⟩
theorem same_of {R' : Nat → Nat → Rat} {L' : Nat → Rat} {H' : Nat → Nat} (Es : Eqv m N R0 L0 Rs Ls Hs) (E' : Eqv m N R0 L0 R' L' H') (h : ∀ j < m, ∃ i < m, H' i = Hs j) {M : Nat} (B : IB M m R' L') : IB M m Rs Ls := by
  obtain ⟨δ, d0, dM, hR, hL⟩ := B
  refine ⟨δ, d0, dM, fun j hj v => ?_, fun v => ?_⟩
  · obtain ⟨i, hi, e⟩ := h j hj
    obtain ⟨z, zM, ez⟩ := hR i hi v
    refine ⟨z, zM, ?_⟩
    rw [← ez]
    have := Es.at (E'.sp1 i hi) v
    rw [sumQ_one (j := j) hj fun j' hj' ne => ?_] at this
    · rw [← e, E'.un i hi i hi, if_pos rfl] at this
      rw [this]; grind
    · obtain ⟨i', hi', e'⟩ := h j' hj'
      rw [← e', E'.un i hi i' hi', if_neg fun q => ne (Es.inj hj' hj (by rw [← e', ← e, q]))]
      grind
  · obtain ⟨z, zM, ez⟩ := hL v
    refine ⟨z, zM, ?_⟩
    rw [← ez]
    have := Es.other E'.spL v
    rw [sumQ_zero fun j hj => ?_] at this
    · rw [this]; grind
    · obtain ⟨i, hi, e⟩ := h j hj
      rw [← e, E'.unL i hi]; grind
end
end Sx
end TY
namespace TY
namespace Sx
/-- n places, m sets A j; columns: places, one for each set, the last -/
def fstR (n m : Nat) (A : Nat → Nat → Bool) : Nat → Nat → Rat := fun j v => if v < n then (if A j v then 1 else 0) else if v < n + m then (if v = n + j then 1 else 0) else if v = n + m then 1 else 0
def fstL (n m : Nat) : Nat → Rat := fun v => if v < n then -1 else 0
section
variable {n m : Nat} {A : Nat → Nat → Bool}
theorem fst_place {j v : Nat} (hv : v < n) : fstR n m A j v = if A j v then 1 else 0 := by unfold fstR; rw [if_pos hv]
theorem fst_slack {j i : Nat} (hi : i < m) : fstR n m A j (n + i) = if i = j then 1 else 0 := by
  unfold fstR
  rw [if_neg (by omega), if_pos (by omega)]
  by_cases e : i = j
  · rw [if_pos e, if_pos (by omega)]
  · rw [if_neg e, if_neg (by omega)]
theorem fst_last {j : Nat} : fstR n m A j (n + m) = 1 := by unfold fstR; rw [if_neg (by omega), if_neg (by omega), if_pos rfl]
theorem fst_eqv : Eqv m (n + m) (fstR n m A) (fstL n m) (fstR n m A) (fstL n m) fun j => n + j where
  sp1 := fun j hj => Sp.row hj
  sp2 := fun j hj => Sp.row hj
  spL := ⟨fun _ => 0, fun v => by rw [sumQ_zero fun _ _ => by grind]; grind⟩
  un := fun i hi j hj => by
    rw [fst_slack hj]
    by_cases e : j = i
    · rw [if_pos e, if_pos e.symm]
    · rw [if_neg e, if_neg (Ne.symm e)]
  unL := fun j hj => by unfold fstL; rw [if_neg (by omega)]
  hl := fun j hj => by omega
variable {R : Nat → Nat → Rat} {L : Nat → Rat} {H : Nat → Nat}
/-- the last row by its own slack part -/
theorem last_row (E : Eqv m (n + m) (fstR n m A) (fstL n m) R L H) (v : Nat) : L v = fstL n m v + sumQ m fun j => L (n + j) * fstR n m A j v := by
  have := (fst_eqv (A := A)).other E.spL v
  exact this
theorem worth_cover (E : Eqv m (n + m) (fstR n m A) (fstL n m) R L H) : L (n + m) = sumQ m fun j => L (n + j) := by
  rw [last_row E, show fstL n m (n + m) = 0 by unfold fstL; rw [if_neg (by omega)]]
  rw [sumQ_congr (g := fun j => L (n + j)) fun j hj => by rw [fst_last]; grind]
  grind
theorem covered (E : Eqv m (n + m) (fstR n m A) (fstL n m) R L H) {p : Nat} (hp : p < n) (ok : 0 ≤ L p) : 1 ≤ sumQ m fun j => if A j p then L (n + j) else 0 := by
  have := last_row E p
  rw [show fstL n m p = -1 by unfold fstL; rw [if_pos hp], sumQ_congr (g := fun j => if A j p then L (n + j) else 0) fun j hj => by rw [fst_place hp]; split <;> grind] at this
  grind
/-- what the rows tell of the weights -/
theorem row_sum (E : Eqv m (n + m) (fstR n m A) (fstL n m) R L H) {f : Nat → Rat} (s : Sp m (fstR n m A) f) : f (n + m) = sumQ m fun k => f (H k) * R k (n + m) := E.at s _
/-- the weight of a place -/
def wt (n m : Nat) (R : Nat → Nat → Rat) (H : Nat → Nat) (p : Nat) : Rat := sumQ m fun k => if H k = p then R k (n + m) else 0
theorem wt_sum {g : Nat → Rat} (hg : ∀ v, n ≤ v → g v = 0) (hl : ∀ k < m, H k < n + m) : (sumQ m fun k => g (H k) * R k (n + m)) = sumQ n fun p => g p * wt n m R H p := by
  have e : ∀ p, g p * wt n m R H p = sumQ m fun k => if H k = p then g p * R k (n + m) else 0 := fun p => by
    unfold wt
    rw [← sumQ_mul]
    exact sumQ_congr fun k _ => by split <;> grind
  rw [sumQ_congr (m := n) (g := fun p => sumQ m fun k => if H k = p then g p * R k (n + m) else 0) fun p _ => e p, sumQ_swap]
  refine sumQ_congr fun k hk => ?_
  by_cases hn : H k < n
  · rw [sumQ_one (j := H k) hn fun p _ ne => by rw [if_neg fun q => ne q.symm], if_pos rfl]
  · rw [hg _ (by omega), sumQ_zero fun p hp => by rw [if_neg fun q => hn (by omega)]]
    grind
theorem weighed (E : Eqv m (n + m) (fstR n m A) (fstL n m) R L H) (fe : ∀ j < m, 0 ≤ R j (n + m)) {j : Nat} (hj : j < m) : (sumQ n fun p => if A j p then wt n m R H p else 0) ≤ 1 := by
  have a := row_sum E (Sp.row hj)
  rw [fst_last] at a
  have b := wt_sum (n := n) (m := m) (R := R) (H := H) (g := fun v => if v < n then (if A j v then 1 else 0) else 0) (fun v hv => if_neg (by omega)) E.hl
  rw [sumQ_congr (m := n) (g := fun p => if A j p then wt n m R H p else 0) fun p hp => by
    show (if p < n then (if A j p then (1 : Rat) else 0) else 0) * wt n m R H p = _
    rw [if_pos hp]; split <;> grind] at b
  rw [← b, a]
  have c : 0 ≤ sumQ m fun k => (fstR n m A j (H k) - (if H k < n then (if A j (H k) then 1 else 0) else 0)) * R k (n + m) := sumQ_nonneg fun k hk => by
    refine Rat.mul_nonneg ?_ (fe k hk)
    unfold fstR
    by_cases h1 : H k < n
    · rw [if_pos h1, if_pos h1]; grind
    · rw [if_neg h1, if_neg h1]
      split
      · split <;> grind
      · split <;> grind
  have d : (sumQ m fun k => (fstR n m A j (H k) - (if H k < n then (if A j (H k) then 1 else 0) else 0)) * R k (n + m)) = (sumQ m fun k => fstR n m A j (H k) * R k (n + m)) + (-1) * sumQ m fun k => (if H k < n then (if A j (H k) then 1 else 0) else 0) * R k (n + m) := by
    rw [← sumQ_mul, ← sumQ_add]
    exact sumQ_congr fun k _ => by grind
  rw [d] at c
  grind
theorem worth_weights (E : Eqv m (n + m) (fstR n m A) (fstL n m) R L H) : L (n + m) = sumQ n fun p => wt n m R H p := by
  have a := row_sum E E.spL
  have b := wt_sum (n := n) (m := m) (R := R) (H := H) (g := fun v => if v < n then 1 else 0) (fun v hv => if_neg (by omega)) E.hl
  rw [sumQ_congr (m := n) (g := fun p => wt n m R H p) fun p hp => by
    show (if p < n then (1 : Rat) else 0) * wt n m R H p = _
    rw [if_pos hp]; grind] at b
  rw [← b]
  rw [show fstL n m (n + m) = 0 by unfold fstL; rw [if_neg (by omega)]] at a
  rw [sumQ_congr (g := fun k => (if H k < n then 1 else 0) * R k (n + m)) fun k hk => by
    rw [E.unL k hk]
    unfold fstL
    split <;> grind] at a
  grind
/-- some row gives way -/
theorem gives_way (E : Eqv m (n + m) (fstR n m A) (fstL n m) R L H) (cov : ∀ p < n, ∃ j < m, A j p = true) {c : Nat} (hc : c < n + m) (neg : L c < 0) : ∃ k < m, 0 < R k c := by
  -- all sets with 1 each
  have s : Sp m (fstR n m A) fun v => (fstL n m v + sumQ m fun j => fstR n m A j v) - fstL n m v := ⟨fun _ => 1, fun v => by
    rw [sumQ_congr (g := fun j => fstR n m A j v) fun j _ => by grind]; grind⟩
  have nn : ∀ j v, 0 ≤ fstR n m A j v := fun j v => by
    unfold fstR
    split
    · split <;> grind
    · split
      · split <;> grind
      · split <;> grind
  have ge : ∀ v, v < n + m → 0 ≤ fstL n m v + sumQ m fun j => fstR n m A j v := fun v hv => by
    by_cases h : v < n
    · obtain ⟨j, hj, e⟩ := cov v h
      rw [show fstL n m v = -1 by unfold fstL; rw [if_pos h]]
      have one : sumQ m (fun i => if i = j then (1 : Rat) else 0) = 1 := by
        rw [sumQ_one (j := j) hj fun i _ ne => if_neg ne, if_pos rfl]
      have : 0 ≤ sumQ m fun i => fstR n m A i v + (-1) * (if i = j then (1 : Rat) else 0) := sumQ_nonneg fun i _ => by
        by_cases q : i = j
        · rw [if_pos q, q, fst_place h, e, if_pos rfl]; grind
        · rw [if_neg q]
          have := nn i v
          grind
      rw [sumQ_add, sumQ_mul, one] at this
      grind
    · rw [show fstL n m v = 0 by unfold fstL; rw [if_neg h]]
      have := sumQ_nonneg (m := m) fun j _ => nn j v
      grind
  have id := E.other s c
  have h1 := ge c hc
  have pos : 0 < sumQ m fun k => (fstL n m (H k) + sumQ m fun j => fstR n m A j (H k)) * R k c := by grind
  obtain ⟨k, hk, p⟩ := sumQ_pos pos
  refine ⟨k, hk, Classical.byContradiction fun no => ?_⟩
  have := Rat.mul_nonneg (ge (H k) (E.hl k hk)) (show 0 ≤ -(R k c) by grind)
  grind
end
end Sx
end TY
namespace TY
open PySem PySem.Spec L2 DL
def fracF (t b : Int) : Int × Int := (t / ((Int.gcd t b : Nat) : Int), b / ((Int.gcd t b : Nat) : Int))
def qF (x : Rat) : Int × Int := (x.num, (x.den : Int))
theorem qF_pos (x : Rat) : 0 < (qF x).2 := by show 0 < (x.den : Int); have := x.den_pos; omega
theorem fracF_div {t b : Int} (h : 0 < b) : fracF t b = qF ((t : Rat) / (b : Rat)) := by
  obtain ⟨n, rfl⟩ : ∃ n : Nat, b = (n : Int) := ⟨b.toNat, by omega⟩
  have hn : n ≠ 0 := by omega
  have e : ((t : Rat) / (((n : Nat) : Int) : Rat)) = Rat.normalize t n hn := by
    rw [← Rat.divInt_eq_div, Rat.divInt_ofNat, ← Rat.normalize_eq_mkRat]
  rw [e, Rat.normalize_eq]
  unfold fracF qF
  simp only [Int.gcd, Int.natAbs_natCast]
  rfl
theorem qF_div (x : Rat) : ((x.num : Int) : Rat) / ((x.den : Int) : Rat) = x := by
  rw [← Rat.divInt_eq_div]; exact Rat.num_divInt_den x
/-- what times, minus, over, plus give -/
def timesF (p q : Int × Int) : Int × Int := fracF (p.1 * q.1) (p.2 * q.2)
def minusF (p q : Int × Int) : Int × Int := fracF (p.1 * q.2 - q.1 * p.2) (p.2 * q.2)
def overF (p q : Int × Int) : Int × Int := fracF (p.1 * q.2) (p.2 * q.1)
theorem den_ne (x : Rat) : ((x.den : Int) : Rat) ≠ 0 := by
  have := x.den_pos
  intro h
  have h : ((x.den : Int) : Rat) = ((0 : Int) : Rat) := h
  have := Rat.intCast_inj.mp h
  omega
theorem timesF_q (x y : Rat) : timesF (qF x) (qF y) = qF (x * y) := by
  unfold timesF
  rw [fracF_div (Int.mul_pos (qF_pos x) (qF_pos y))]
  show qF (((x.num * y.num : Int) : Rat) / (((x.den : Int) * (y.den : Int) : Int) : Rat)) = _
  congr 1
  have hx := den_ne x; have hy := den_ne y
  have ex := qF_div x; have ey := qF_div y
  rw [Rat.intCast_mul, Rat.intCast_mul]
  generalize ((x.num : Int) : Rat) = a at *
  generalize ((x.den : Int) : Rat) = b at *
  generalize ((y.num : Int) : Rat) = c at *
  generalize ((y.den : Int) : Rat) = d at *
  subst ex ey
  grind
theorem minusF_q (x y : Rat) : minusF (qF x) (qF y) = qF (x - y) := by
  unfold minusF
  rw [fracF_div (Int.mul_pos (qF_pos x) (qF_pos y))]
  show qF (((x.num * (y.den : Int) - y.num * (x.den : Int) : Int) : Rat) / (((x.den : Int) * (y.den : Int) : Int) : Rat)) = _
  congr 1
  have hx := den_ne x; have hy := den_ne y
  have ex := qF_div x; have ey := qF_div y
  rw [Rat.intCast_sub, Rat.intCast_mul, Rat.intCast_mul, Rat.intCast_mul]
  generalize ((x.num : Int) : Rat) = a at *
  generalize ((x.den : Int) : Rat) = b at *
  generalize ((y.num : Int) : Rat) = c at *
  generalize ((y.den : Int) : Rat) = d at *
  subst ex ey
  grind
theorem num_pos {y : Rat} (h : 0 < y) : 0 < y.num := by
  have h := (Rat.lt_iff 0 y).mp h
  simpa using h
theorem overF_q {x y : Rat} (h : 0 < y) : overF (qF x) (qF y) = qF (x / y) := by
  unfold overF
  rw [fracF_div (show 0 < (qF x).2 * (qF y).1 from Int.mul_pos (qF_pos x) (num_pos h))]
  show qF (((x.num * (y.den : Int) : Int) : Rat) / (((x.den : Int) * y.num : Int) : Rat)) = _
  congr 1
  have hx := den_ne x; have hy := den_ne y
  have ex := qF_div x; have ey := qF_div y
  have hn : ((y.num : Int) : Rat) ≠ 0 := fun e => by
    have e : ((y.num : Int) : Rat) = ((0 : Int) : Rat) := e
    have := Rat.intCast_inj.mp e; have := num_pos h; omega
  rw [Rat.intCast_mul, Rat.intCast_mul]
  generalize ((x.num : Int) : Rat) = a at *
  generalize ((x.den : Int) : Rat) = b at *
  generalize ((y.num : Int) : Rat) = c at *
  generalize ((y.den : Int) : Rat) = d at *
  subst ex ey
  grind
theorem below_q (x y : Rat) : decide ((qF x).1 * (qF y).2 < (qF y).1 * (qF x).2) = decide (x < y) := by
  rw [decide_eq_decide]
  exact Rat.lt_iff x y |>.symm
def fracP (t b : Int) : Prop := 0 < b ∧ b < 2 ^ 5000
def timesP (p q : Int × Int) : Prop := (mulOk p.1 q.1 ∧ mulOk p.2 q.2) ∧ fracP (p.1 * q.1) (p.2 * q.2)
def minusP (p q : Int × Int) : Prop := (mulOk p.1 q.2 ∧ mulOk q.1 p.2 ∧ mulOk p.2 q.2) ∧ fracP (p.1 * q.2 - q.1 * p.2) (p.2 * q.2)
def overP (p q : Int × Int) : Prop := (mulOk p.1 q.2 ∧ mulOk p.2 q.1) ∧ fracP (p.1 * q.2) (p.2 * q.1)
def belowF (p q : Int × Int) : Bool := decide (p.1 * q.2 < q.1 * p.2)
def belowP (p q : Int × Int) : Prop := mulOk p.1 q.2 ∧ mulOk q.1 p.2
end TY
namespace DL
open PySem PySem.Spec L2
theorem gi_nat {α : Type} [Inhabited α] {l : List α} {k : Nat} (h : k < l.length) : gi l (k : Int) = l[k] := by
  unfold gi atI ixN
  rw [if_pos (by omega), if_pos (by omega)]
  show (l[((k : Int)).toNat]?).getD default = _
  rw [Int.toNat_natCast, List.getElem?_eq_getElem h]; rfl
theorem gi_int {α : Type} [Inhabited α] {l : List α} {i : Int} (h0 : 0 ≤ i) (h : i < l.length) : gi l i = l[i.toNat]'(by omega) := by
  obtain ⟨k, rfl⟩ := Int.eq_ofNat_of_zero_le h0
  exact gi_nat (by omega)
theorem gi_mem {α : Type} [Inhabited α] {l : List α} {i : Int} (h0 : 0 ≤ i) (h : i < l.length) : gi l i ∈ l := by rw [gi_int h0 h]; exact List.getElem_mem _
theorem gi_map {α β : Type} [Inhabited α] [Inhabited β] (f : α → β) {l : List α} {i : Int} (h0 : 0 ≤ i) (h : i < l.length) : gi (l.map f) i = f (gi l i) := by
  rw [gi_int h0 (by rw [List.length_map]; exact h), gi_int h0 h, List.getElem_map]
theorem gi_last {α : Type} [Inhabited α] (l : List α) (x : α) : gi (l ++ [x]) (-1) = x := by
  unfold gi atI ixN
  rw [if_neg (by omega), if_pos (by simp; omega)]
  show (((l ++ [x])[(-1 + ((l ++ [x]).length : Int)).toNat]?).getD default) = x
  have : (-1 + ((l ++ [x]).length : Int)).toNat = l.length := by simp; omega
  rw [this]; simp
theorem gi_append_left {α : Type} [Inhabited α] {l m : List α} {i : Int} (h0 : 0 ≤ i) (h : i < l.length) : gi (l ++ m) i = gi l i := by
  rw [gi_int h0 (by rw [List.length_append]; omega), gi_int h0 h, List.getElem_append_left]
theorem gi_append_right {α : Type} [Inhabited α] {l m : List α} {i : Int} (h0 : (l.length : Int) ≤ i) (h : i < l.length + m.length) : gi (l ++ m) i = gi m (i - l.length) := by
  rw [gi_int (by omega) (by rw [List.length_append]; omega), gi_int (by omega) (by omega), List.getElem_append_right (by omega)]
  congr 1
  omega
theorem inR {α : Type} {l : List α} {i : Int} (h0 : 0 ≤ i) (h : i < l.length) : InR l i := ⟨by omega, h⟩
theorem mem_ienum {α : Type} [Inhabited α] {l : List α} {p : Int × α} : p ∈ ienum l ↔ 0 ≤ p.1 ∧ p.1 < l.length ∧ gi l p.1 = p.2 := by
  unfold ienum
  rw [List.mem_map]
  constructor
  · rintro ⟨⟨a, i⟩, h, rfl⟩
    rw [List.mem_zipIdx_iff_getElem?] at h
    obtain ⟨h1, h2⟩ := List.getElem?_eq_some_iff.mp h
    exact ⟨by show (0 : Int) ≤ (i : Int); omega, by show (i : Int) < _; omega, by show gi l (i : Int) = a; rw [gi_nat h1]; exact h2⟩
  · rintro ⟨h1, h2, h3⟩
    refine ⟨(p.2, p.1.toNat), ?_, Prod.ext (by show ((p.1.toNat : Nat) : Int) = p.1; omega) rfl⟩
    rw [List.mem_zipIdx_iff_getElem?]
    show l[p.1.toNat]? = some p.2
    rw [List.getElem?_eq_getElem (by omega), ← h3, gi_int h1 h2]
theorem ienum_length {α : Type} (l : List α) : (ienum l).length = l.length := by unfold ienum; simp
theorem map_nodup {α β : Type} {l : List α} {f : α → β} (hl : l.Nodup) (hf : ∀ a ∈ l, ∀ b ∈ l, f a = f b → a = b) : (l.map f).Nodup :=
  List.pairwise_map.mpr (hl.imp_of_mem fun {a b} ha hb h e => h (hf a ha b hb e))
def sumN (webs : List Web) : Int := (webs.map (·.1)).sum
/-- where web k's places begin -/
def off (webs : List Web) (k : Int) : Int := sumN (webs.take k.toNat)
structure putInP (web : Web) (webs : List Web) : Prop where
  isw : IsWeb web
  len : web.1 = webs.length
  ws : ∀ w ∈ webs, IsWeb w ∧ w.1 ≤ 24
  n24 : web.1 ≤ 24
theorem putInP.nn {web : Web} {webs : List Web} (h : putInP web webs) : ∀ w ∈ webs, 0 ≤ w.1 := fun w m => (h.ws w m).1.n0
theorem gi_irange {lo hi i : Int} (h0 : 0 ≤ i) (h : i < hi - lo) : gi (irange lo hi) i = lo + i := by
  rw [gi_int h0 (by rw [irange_length]; omega)]
  unfold irange
  rw [List.getElem_map, List.getElem_range]; omega
end DL
namespace TY
open PySem PySem.Spec L2 DL
def takenF (row : List (Int × Int)) (rate : Int × Int) (other : List (Int × Int)) : List (Int × Int) := (List.zip row other).map fun p => minusF p.1 (timesF rate p.2)
def takenP (row : List (Int × Int)) (rate : Int × Int) (other : List (Int × Int)) : Prop := (List.zip row other).length ≤ 10000000 ∧ ∀ p ∈ List.zip row other, timesP rate p.2 ∧ minusP p.1 (timesF rate p.2)
namespace Sx
/-- small numbers -/
def Sm (k : Nat) (x : Rat) : Prop := x.num.natAbs < 2 ^ k ∧ x.den < 2 ^ k
theorem Sm.mono {k l : Nat} {x : Rat} (h : Sm k x) (hl : k ≤ l) : Sm l x :=
  ⟨Nat.lt_of_lt_of_le h.1 (Nat.pow_le_pow_right (by omega) hl), Nat.lt_of_lt_of_le h.2 (Nat.pow_le_pow_right (by omega) hl)⟩
theorem mulOk_sm {i j : Int} {a b : Nat} (hi : i.natAbs < 2 ^ a) (hj : j.natAbs < 2 ^ b) (ha : a ≤ 5000) (hb : b ≤ 5000) : mulOk i j :=
  .inr ⟨Nat.lt_of_lt_of_le hi (Nat.pow_le_pow_right (by omega) ha), Nat.lt_of_lt_of_le hj (Nat.pow_le_pow_right (by omega) hb)⟩
theorem mul_lt {i j : Int} {a b : Nat} (hi : i.natAbs < 2 ^ a) (hj : j.natAbs < 2 ^ b) : (i * j).natAbs < 2 ^ (a + b) := by
  rw [Int.natAbs_mul, Nat.pow_add]
  exact Nat.mul_lt_mul'' hi hj
theorem lt5 {i : Int} {a : Nat} (hi : i.natAbs < 2 ^ a) (ha : a ≤ 5000) : i < 2 ^ 5000 := by
  have h1 : i.natAbs < 2 ^ 5000 := Nat.lt_of_lt_of_le hi (Nat.pow_le_pow_right (by omega) ha)
  have h2 : (i.natAbs : Int) < ((2 ^ 5000 : Nat) : Int) := Int.ofNat_lt.mpr h1
  have h3 : i ≤ (i.natAbs : Int) := Int.le_natAbs
  have h4 : ((2 ^ 5000 : Nat) : Int) = (2 : Int) ^ 5000 := Int.natCast_pow 2 5000
  rw [h4] at h2
  exact Int.lt_of_le_of_lt h3 h2
theorem timesP_sm {a b : Nat} {x y : Rat} (hx : Sm a x) (hy : Sm b y) (h : a + b ≤ 5000) : timesP (qF x) (qF y) :=
  ⟨⟨mulOk_sm hx.1 hy.1 (by omega) (by omega), mulOk_sm (i := (x.den : Int)) (j := (y.den : Int)) hx.2 hy.2 (by omega) (by omega)⟩, Int.mul_pos (qF_pos x) (qF_pos y), lt5 (mul_lt (i := (x.den : Int)) (j := (y.den : Int)) hx.2 hy.2) h⟩
theorem gcd_le_den {t b : Int} (hb : 0 < b) : (t / ((Int.gcd t b : Nat) : Int)).natAbs ≤ t.natAbs ∧ (b / ((Int.gcd t b : Nat) : Int)).natAbs ≤ b.natAbs := by
  constructor
  · rw [Int.natAbs_ediv_of_dvd (Int.gcd_dvd_left ..)]; exact Nat.div_le_self ..
  · rw [Int.natAbs_ediv_of_dvd (Int.gcd_dvd_right ..)]; exact Nat.div_le_self ..
theorem Sm.of_frac {x : Rat} {t b : Int} {k : Nat} (e : fracF t b = qF x) (hb : 0 < b) (h1 : t.natAbs < 2 ^ k) (h2 : b.natAbs < 2 ^ k) : Sm k x := by
  have g := gcd_le_den (t := t) hb
  have e1 : x.num = t / ((Int.gcd t b : Nat) : Int) := (congrArg Prod.fst e).symm
  have e2 : (x.den : Int) = b / ((Int.gcd t b : Nat) : Int) := (congrArg Prod.snd e).symm
  refine ⟨by rw [e1]; exact Nat.lt_of_le_of_lt g.1 h1, ?_⟩
  have : ((x.den : Int)).natAbs < 2 ^ k := by rw [e2]; exact Nat.lt_of_le_of_lt g.2 h2
  exact this
theorem Sm.mul {a b : Nat} {x y : Rat} (hx : Sm a x) (hy : Sm b y) : Sm (a + b) (x * y) :=
  .of_frac (timesF_q x y) (Int.mul_pos (qF_pos x) (qF_pos y)) (mul_lt hx.1 hy.1) (mul_lt (i := (x.den : Int)) (j := (y.den : Int)) hx.2 hy.2)
theorem minusP_sm {a b : Nat} {x y : Rat} (hx : Sm a x) (hy : Sm b y) (h : a + b ≤ 5000) : minusP (qF x) (qF y) :=
  ⟨⟨mulOk_sm hx.1 (j := (y.den : Int)) hy.2 (by omega) (by omega), mulOk_sm hy.1 (j := (x.den : Int)) hx.2 (by omega) (by omega), mulOk_sm (i := (x.den : Int)) (j := (y.den : Int)) hx.2 hy.2 (by omega) (by omega)⟩, Int.mul_pos (qF_pos x) (qF_pos y), lt5 (mul_lt (i := (x.den : Int)) (j := (y.den : Int)) hx.2 hy.2) h⟩
theorem overP_sm {a b : Nat} {x y : Rat} (hx : Sm a x) (hy : Sm b y) (h : a + b ≤ 5000) (p : 0 < y) : overP (qF x) (qF y) :=
  ⟨⟨mulOk_sm hx.1 (j := (y.den : Int)) hy.2 (by omega) (by omega), mulOk_sm (i := (x.den : Int)) hx.2 hy.1 (by omega) (by omega)⟩, Int.mul_pos (qF_pos x) (num_pos p), lt5 (mul_lt (i := (x.den : Int)) hx.2 hy.1) h⟩
theorem Sm.div {a b : Nat} {x y : Rat} (hx : Sm a x) (hy : Sm b y) (p : 0 < y) : Sm (a + b) (x / y) :=
  .of_frac (overF_q p) (Int.mul_pos (qF_pos x) (num_pos p)) (mul_lt hx.1 (j := (y.den : Int)) hy.2) (mul_lt (i := (x.den : Int)) hx.2 hy.1)
theorem belowP_sm {a b : Nat} {x y : Rat} (hx : Sm a x) (hy : Sm b y) (ha : a ≤ 5000) (hb : b ≤ 5000) : belowP (qF x) (qF y) :=
  ⟨mulOk_sm hx.1 (j := (y.den : Int)) hy.2 ha hb, mulOk_sm hy.1 (j := (x.den : Int)) hx.2 hb ha⟩
theorem belowF_q (x y : Rat) : belowF (qF x) (qF y) = decide (x < y) := below_q x y
theorem qF_inj {x y : Rat} (h : qF x = qF y) : x = y := by
  have h1 : x.num = y.num := congrArg Prod.fst h
  have h2 : (x.den : Int) = (y.den : Int) := congrArg Prod.snd h
  exact Rat.ext h1 (by omega)
theorem num_pos_iff {x : Rat} : 0 < (qF x).1 ↔ 0 < x :=
  ⟨fun h => (Rat.lt_iff 0 x).mpr (by have h : 0 < x.num := h; simpa using h), num_pos⟩
theorem num_neg_iff {x : Rat} : (qF x).1 < 0 ↔ x < 0 :=
  ⟨fun h => (Rat.lt_iff x 0).mpr (by have h : x.num < 0 := h; simpa using h), fun h => by have h := (Rat.lt_iff x 0).mp h; show x.num < 0; simpa using h⟩
theorem sm_le1 {x : Rat} (h : x = 0 ∨ x = 1 ∨ x = -1) : Sm 1 x := by
  rcases h with rfl | rfl | rfl <;> exact ⟨by decide, by decide⟩
/-- a row -/
def rowT (N : Nat) (f : Nat → Rat) : List (Int × Int) := (List.range (N + 1)).map fun v => qF (f v)
section
variable {N v : Nat} {f g : Nat → Rat} {r : Rat}
theorem rowT_len : (rowT N f).length = N + 1 := by unfold rowT; simp
theorem rowT_gi (h : v ≤ N) : gi (rowT N f) (v : Int) = qF (f v) := by
  rw [gi_nat (by rw [rowT_len]; omega)]
  unfold rowT
  rw [List.getElem_map, List.getElem_range]
theorem rowT_in (h : v ≤ N) : InR (rowT N f) (v : Int) := by
  unfold InR; rw [rowT_len]; omega
theorem rowT_inL : InR (rowT N f) (-1) := by unfold InR; rw [rowT_len]; omega
theorem rowT_snoc : rowT N f = ((List.range N).map fun v => qF (f v)) ++ [qF (f N)] := by
  unfold rowT; rw [List.range_succ, List.map_append]; rfl
theorem rowT_last : gi (rowT N f) (-1) = qF (f N) := by rw [rowT_snoc, gi_last]
theorem rowT_congr (h : ∀ v ≤ N, f v = g v) : rowT N f = rowT N g := by
  unfold rowT
  refine List.map_congr_left fun v hv => ?_
  rw [List.mem_range] at hv
  rw [h v (by omega)]
theorem mem_rowT {p : Int × Int} (h : p ∈ rowT N f) : ∃ v ≤ N, p = qF (f v) := by
  unfold rowT at h
  obtain ⟨v, hv, rfl⟩ := List.mem_map.mp h
  rw [List.mem_range] at hv
  exact ⟨v, by omega, rfl⟩
theorem zip_rows : List.zip (rowT N f) (rowT N g) = (List.range (N + 1)).map fun v => (qF (f v), qF (g v)) := by
  unfold rowT; exact List.zip_map' ..
theorem taken_row : takenF (rowT N f) (qF r) (rowT N g) = rowT N fun v => f v - r * g v := by
  unfold takenF
  rw [zip_rows, List.map_map]
  unfold rowT
  refine List.map_congr_left fun v _ => ?_
  show minusF (qF (f v)) (timesF (qF r) (qF (g v))) = _
  rw [timesF_q, minusF_q]
theorem taken_ok (hN : N ≤ 9000000) (hf : ∀ v ≤ N, Sm 1000 (f v)) (hr : Sm 1000 r) (hg : ∀ v ≤ N, Sm 1000 (g v)) : takenP (rowT N f) (qF r) (rowT N g) := by
  unfold takenP
  rw [zip_rows]
  refine ⟨by simp; omega, fun p hp => ?_⟩
  obtain ⟨v, hv, rfl⟩ := List.mem_map.mp hp
  rw [List.mem_range] at hv
  refine ⟨timesP_sm hr (hg v (by omega)) (by omega), ?_⟩
  show minusP (qF (f v)) (timesF (qF r) (qF (g v)))
  rw [timesF_q]
  exact minusP_sm (hf v (by omega)) (hr.mul (hg v (by omega))) (by omega)
theorem over_row (p : 0 < r) : ((rowT N f).map fun one => overF one (qF r)) = rowT N fun v => f v / r := by
  unfold rowT
  rw [List.map_map]
  refine List.map_congr_left fun v _ => ?_
  show overF (qF (f v)) (qF r) = _
  rw [overF_q p]
end
def mkTb (n m : Nat) (R : Nat → Nat → Rat) (L : Nat → Rat) (H : Nat → Nat) : Tb :=
  ⟨(n : Int), (List.range m).map fun j => rowT (n + m) (R j), rowT (n + m) L, (List.range m).map fun j => ((H j : Nat) : Int)⟩
theorem range_gi {α : Type} [Inhabited α] {m j : Nat} {F : Nat → α} (h : j < m) : gi ((List.range m).map F) (j : Int) = F j := by
  rw [gi_nat (by simpa using h), List.getElem_map, List.getElem_range]
theorem range_set {α : Type} {m i : Nat} {F : Nat → α} {x : α} (h : i < m) : ((List.range m).map F).set i x = (List.range m).map fun j => if j = i then x else F j := by
  refine List.ext_getElem (by simp) fun j h1 h2 => ?_
  rw [List.getElem_set, List.getElem_map, List.getElem_range, List.getElem_map, List.getElem_range]
  by_cases e : i = j
  · rw [if_pos e, if_pos e.symm]
  · rw [if_neg e, if_neg (Ne.symm e)]
theorem range_congr {α : Type} {m : Nat} {F G : Nat → α} (h : ∀ j < m, F j = G j) : (List.range m).map F = (List.range m).map G :=
  List.map_congr_left fun j hj => h j (List.mem_range.mp hj)
section
variable {n m : Nat} {R : Nat → Nat → Rat} {L : Nat → Rat} {H : Nat → Nat}
theorem tb_rows_len : (mkTb n m R L H).rows.length = m := by unfold mkTb; simp
theorem tb_held_len : (mkTb n m R L H).held.length = m := by unfold mkTb; simp
theorem tb_row {j : Nat} (h : j < m) : gi (mkTb n m R L H).rows (j : Int) = rowT (n + m) (R j) := range_gi h
theorem tb_held {j : Nat} (h : j < m) : gi (mkTb n m R L H).held (j : Int) = ((H j : Nat) : Int) := range_gi h
theorem mkTb_congr {R' : Nat → Nat → Rat} {L' : Nat → Rat} {H' : Nat → Nat} (hR : ∀ j < m, ∀ v, R j v = R' j v) (hL : ∀ v, L v = L' v) (hH : ∀ j < m, H j = H' j) : mkTb n m R L H = mkTb n m R' L' H' := by
  unfold mkTb
  rw [range_congr (F := fun j => rowT (n + m) (R j)) (G := fun j => rowT (n + m) (R' j)) fun j hj => rowT_congr fun v _ => hR j hj v, rowT_congr (f := L) (g := L') fun v _ => hL v, range_congr (F := fun j => ((H j : Nat) : Int)) (G := fun j => ((H' j : Nat) : Int)) fun j hj => by rw [hH j hj]]
end
end Sx
end TY
namespace TY
open PySem PySem.Spec L2 DL
namespace Sx
theorem sm_quot {z δ : Int} {M : Nat} {x : Rat} (h0 : δ ≠ 0) (h1 : δ.natAbs ≤ 2 ^ M) (h2 : z.natAbs ≤ 2 ^ M) (e : x = (z : Rat) / (δ : Rat)) : Sm (M + 1) x := by
  have lt : 2 ^ M < 2 ^ (M + 1) := Nat.pow_lt_pow_right (by omega) (by omega)
  rcases Int.lt_or_gt_of_ne h0 with q | q
  · have e2 : x = ((-z : Int) : Rat) / ((-δ : Int) : Rat) := by
      rw [e, Rat.intCast_neg, Rat.intCast_neg]
      have : ((δ : Int) : Rat) ≠ 0 := int_ne h0
      grind
    have f := fracF_div (t := -z) (b := -δ) (by omega)
    rw [← e2] at f
    exact .of_frac f (by omega) (by omega) (by omega)
  · have f := fracF_div (t := z) (b := δ) q
    rw [← e] at f
    exact .of_frac f q (by omega) (by omega)
section
variable {n m : Nat} {A : Nat → Nat → Bool} {R : Nat → Nat → Rat} {L : Nat → Rat} {H : Nat → Nat}
theorem fst_vals (j v : Nat) : fstR n m A j v = 0 ∨ fstR n m A j v = 1 := by
  unfold fstR
  split
  · split
    · exact .inr rfl
    · exact .inl rfl
  · split
    · split
      · exact .inr rfl
      · exact .inl rfl
    · split
      · exact .inr rfl
      · exact .inl rfl
theorem fst_IB : IB 1 m (fstR n m A) (fstL n m) := by
  refine ⟨1, by decide, by decide, fun j _ v => ?_, fun v => ?_⟩
  · rcases fst_vals (n := n) (m := m) (A := A) j v with e | e
    · exact ⟨0, by decide, by rw [e]; decide +kernel⟩
    · exact ⟨1, by decide, by rw [e]; decide +kernel⟩
  · unfold fstL
    split
    · exact ⟨-1, by decide, by decide +kernel⟩
    · exact ⟨0, by decide, by decide +kernel⟩
theorem eqv_sm (hn : n ≤ 7) (E : Eqv m (n + m) (fstR n m A) (fstL n m) R L H) : (∀ j < m, ∀ v, Sm 128 (R j v)) ∧ ∀ v, Sm 128 (L v) := by
  have nd : ((List.range m).filter fun j => decide (H j < n)).Nodup := List.nodup_range.filter _
  have mem : ∀ {j}, j ∈ (List.range m).filter (fun j => decide (H j < n)) ↔ j < m ∧ H j < n := by
    intro j; rw [List.mem_filter, List.mem_range]; simp
  have len : ((List.range m).filter fun j => decide (H j < n)).length ≤ 7 := by
    have h1 : (((List.range m).filter fun j => decide (H j < n)).map H).Nodup := by
      unfold List.Nodup
      rw [List.pairwise_map]
      have := List.pairwise_iff_getElem.mp nd
      refine List.Pairwise.imp_of_mem (R := fun a b => a ≠ b) (fun ha hb ne e => ne (E.inj (mem.mp ha).1 (mem.mp hb).1 e)) nd
    have h2 := nodup_sub_len _ (List.range n) h1 fun x hx => by
      obtain ⟨j, hj, rfl⟩ := List.mem_map.mp hx
      exact List.mem_range.mpr (mem.mp hj).2
    rw [List.length_map, List.length_range] at h2
    omega
  obtain ⟨R', L', H', E', B', h'⟩ := reach E ((List.range m).filter fun j => decide (H j < n)) 0 _ _ _ fst_eqv fst_IB fun j hj => by
    by_cases q : H j < n
    · exact .inl (mem.mpr ⟨hj, q⟩)
    · exact .inr ⟨H j - n, by have := E.hl j hj; omega, by omega⟩
  have B7 := same_of E E' h' (B'.mono (bnd2_le (show 0 + _ ≤ 7 by omega)))
  obtain ⟨δ, d0, dM, hR, hL⟩ := B7
  have e7 : bnd2 7 = 2 ^ 127 := by decide +kernel
  rw [e7] at dM hR hL
  refine ⟨fun j hj v => ?_, fun v => ?_⟩
  · obtain ⟨z, zM, ez⟩ := hR j hj v
    exact sm_quot d0 dM zM ez
  · obtain ⟨z, zM, ez⟩ := hL v
    exact sm_quot d0 dM zM ez
end
structure TS where
  R : Nat → Nat → Rat
  L : Nat → Rat
  H : Nat → Nat
section
variable {m N : Nat} {R0 : Nat → Nat → Rat} {L0 : Nat → Rat}
open Classical in
noncomputable def nxt (m N : Nat) (s : TS) : TS :=
  if h : ∃ q : Nat × Nat, Turn m N s.R s.L s.H q.1 q.2 then ⟨pivR s.R (choose h).1 (choose h).2, pivL s.R s.L (choose h).1 (choose h).2, pivH s.H (choose h).1 (choose h).2⟩ else s
noncomputable def iter (m N : Nat) (s : TS) : Nat → TS
  | 0 => s
  | t + 1 => nxt m N (iter m N s t)
theorem turn_uniq {R : Nat → Nat → Rat} {L : Nat → Rat} {H : Nat → Nat} (inj : ∀ i < m, ∀ j < m, H i = H j → i = j) {c k c' k' : Nat} (T : Turn m N R L H c k) (T' : Turn m N R L H c' k') : c = c' ∧ k = k' := by
  have ec : c = c' := by
    rcases Nat.lt_trichotomy c c' with q | q | q
    · have := T'.least c q; have := T.neg; grind
    · exact q
    · have := T.least c' q; have := T'.neg; grind
  subst ec
  refine ⟨rfl, ?_⟩
  have h1 := T.best k' T'.km T'.pos
  have h2 := T'.best k T.km T.pos
  rcases h1 with q | ⟨q, q1⟩
  · rcases h2 with r | ⟨r, _⟩ <;> grind
  · rcases h2 with r | ⟨r, r1⟩
    · grind
    · exact inj k T.km k' T'.km (by omega)
theorem nxt_eq {s : TS} {c k : Nat} (inj : ∀ i < m, ∀ j < m, s.H i = s.H j → i = j) (T : Turn m N s.R s.L s.H c k) : nxt m N s = ⟨pivR s.R c k, pivL s.R s.L c k, pivH s.H c k⟩ := by
  have h : ∃ q : Nat × Nat, Turn m N s.R s.L s.H q.1 q.2 := ⟨(c, k), T⟩
  unfold nxt
  rw [dif_pos h]
  obtain ⟨e1, e2⟩ := turn_uniq inj T (Classical.choose_spec h)
  rw [← e1, ← e2]
/-- rows that stay at least nought at the last column -/
theorem feas_turn {R : Nat → Nat → Rat} {L : Nat → Rat} {H : Nat → Nat} {c k : Nat} (T : Turn m N R L H c k) (fe : ∀ j < m, 0 ≤ R j N) : ∀ j < m, 0 ≤ pivR R c k j N := fun j hj => by
  unfold pivR
  have hk := div_nonneg (fe k T.km) T.pos
  by_cases e : j = k
  · rw [if_pos e]; exact hk
  · rw [if_neg e]
    by_cases p : 0 < R j c
    · have le : R k N / R k c ≤ R j N / R j c := by
        rcases T.best j hj p with q | ⟨q, _⟩ <;> grind
      have h2 : R j c * (R k N / R k c) ≤ R j c * (R j N / R j c) := Rat.mul_le_mul_of_nonneg_left le (by grind)
      have h3 : R j c * (R j N / R j c) = R j N := by
        have : R j c ≠ 0 := by grind
        grind
      grind
    · have h1 : 0 ≤ (-(R j c)) * (R k N / R k c) := Rat.mul_nonneg (by grind) hk
      have := fe j hj
      grind
theorem iter_ok {s : TS} (E : Eqv m N R0 L0 s.R s.L s.H) (fe : ∀ j < m, 0 ≤ s.R j N) : ∀ t, Eqv m N R0 L0 (iter m N s t).R (iter m N s t).L (iter m N s t).H ∧ ∀ j < m, 0 ≤ (iter m N s t).R j N
  | 0 => ⟨E, fe⟩
  | t + 1 => by
    obtain ⟨E1, f1⟩ := iter_ok E fe t
    by_cases h : ∃ q : Nat × Nat, Turn m N (iter m N s t).R (iter m N s t).L (iter m N s t).H q.1 q.2
    · obtain ⟨⟨c, k⟩, T⟩ := h
      have e := nxt_eq (fun i hi j hj q => E1.inj hi hj q) T
      show Eqv m N R0 L0 (nxt m N (iter m N s t)).R (nxt m N (iter m N s t)).L (nxt m N (iter m N s t)).H ∧ ∀ j < m, 0 ≤ (nxt m N (iter m N s t)).R j N
      rw [e]
      exact ⟨E1.turn T.km T.cN (by have := T.pos; grind) (T.free E1), feas_turn T f1⟩
    · have e : nxt m N (iter m N s t) = iter m N s t := by unfold nxt; rw [dif_neg h]
      show Eqv m N R0 L0 (nxt m N (iter m N s t)).R (nxt m N (iter m N s t)).L (nxt m N (iter m N s t)).H ∧ ∀ j < m, 0 ≤ (nxt m N (iter m N s t)).R j N
      rw [e]; exact ⟨E1, f1⟩
theorem iter_ends {s : TS} (E : Eqv m N R0 L0 s.R s.L s.H) (fe : ∀ j < m, 0 ≤ s.R j N) : ∃ t, ¬ ∃ q : Nat × Nat, Turn m N (iter m N s t).R (iter m N s t).L (iter m N s t).H q.1 q.2 := by
  refine Classical.byContradiction fun no => ?_
  have all : ∀ t, ∃ q : Nat × Nat, Turn m N (iter m N s t).R (iter m N s t).L (iter m N s t).H q.1 q.2 := fun t => Classical.byContradiction fun h => no ⟨t, h⟩
  have ok := iter_ok (N := N) E fe
  have st : ∀ t, iter m N s (t + 1) = ⟨pivR (iter m N s t).R (Classical.choose (all t)).1 (Classical.choose (all t)).2, pivL (iter m N s t).R (iter m N s t).L (Classical.choose (all t)).1 (Classical.choose (all t)).2, pivH (iter m N s t).H (Classical.choose (all t)).1 (Classical.choose (all t)).2⟩ := fun t =>
    nxt_eq (fun i hi j hj q => (ok t).1.inj hi hj q) (Classical.choose_spec (all t))
  exact run_ends (R := fun t => (iter m N s t).R) (L := fun t => (iter m N s t).L) (H := fun t => (iter m N s t).H) (c := fun t => (Classical.choose (all t)).1) (k := fun t => (Classical.choose (all t)).2)
    ⟨fun t => (ok t).1, fun t => (ok t).2, fun t => Classical.choose_spec (all t), fun t => by rw [st t], fun t => by rw [st t], fun t => by rw [st t]⟩
end
end Sx
end TY
namespace TY
open PySem PySem.Spec L2 DL
namespace Sx
theorem irange_nat (n : Nat) : irange 0 (n : Int) = (List.range n).map fun v => ((v : Nat) : Int) := by
  unfold irange
  rw [show ((n : Int) - 0).toNat = n by omega]
  refine List.map_congr_left fun v _ => ?_
  omega
theorem irange_nat_len (n : Nat) : (irange 0 (n : Int)).length = n := by rw [irange_nat]; simp
theorem frac_01 (b : Bool) : fracF (if b = true then (1 : Int) else 0) (1 : Int) = qF (if b then 1 else 0) := by cases b <;> rfl
theorem fracP_01 (b : Bool) : fracP (if b = true then (1 : Int) else 0) (1 : Int) := ⟨by decide, by decide +kernel⟩
section
variable {n m j : Nat} {A : Nat → Nat → Bool}
theorem rowT_split (f : Nat → Rat) : rowT (n + m) f = ((List.range n).map fun v => qF (f v)) ++ ((List.range m).map fun i => qF (f (n + i))) ++ [qF (f (n + m))] := by
  rw [rowT_snoc, List.range_add, List.map_append, List.map_map]; rfl
theorem fst_row (g : Int → Bool) (hg : ∀ v < n, g (v : Int) = A j v) : rowT (n + m) (fstR n m A j) = ((irange 0 (n : Int)).map fun place => fracF (if (g place) = true then (1 : Int) else 0) (1 : Int)) ++ ((irange 0 (m : Int)).map fun i => fracF (if (decide (i = (j : Int))) = true then (1 : Int) else 0) (1 : Int)) ++ [((1, 1) : Int × Int)] := by
  rw [rowT_split, fst_last, irange_nat, irange_nat, List.map_map, List.map_map]
  congr 1
  congr 1
  · refine range_congr fun v hv => ?_
    show _ = fracF (if (g (v : Int)) = true then (1 : Int) else 0) (1 : Int)
    rw [frac_01, fst_place hv, hg v hv]
  · refine range_congr fun i hi => ?_
    show _ = fracF (if (decide ((i : Int) = (j : Int))) = true then (1 : Int) else 0) (1 : Int)
    rw [frac_01, fst_slack hi]
    by_cases e : i = j
    · subst e; simp
    · rw [if_neg e, if_neg (by simpa using (fun q => e (by omega) : ¬ ((i : Int) = (j : Int))))]
theorem fst_lastT : rowT (n + m) (fstL n m) = List.replicate ((n : Int)).toNat (-(1 : Int), (1 : Int)) ++ List.replicate ((m : Int) + (1 : Int)).toNat ((0, 1) : Int × Int) := by
  rw [show ((n : Int)).toNat = n by omega, show ((m : Int) + 1).toNat = m + 1 by omega]
  unfold rowT
  rw [show n + m + 1 = n + (m + 1) by omega, List.range_add, List.map_append, List.map_map]
  congr 1
  · refine List.eq_replicate_iff.mpr ⟨by simp, fun p hp => ?_⟩
    obtain ⟨v, hv, rfl⟩ := List.mem_map.mp hp
    rw [List.mem_range] at hv
    unfold fstL; rw [if_pos hv]; rfl
  · refine List.eq_replicate_iff.mpr ⟨by simp, fun p hp => ?_⟩
    obtain ⟨v, hv, rfl⟩ := List.mem_map.mp hp
    show qF (fstL n m (n + v)) = _
    unfold fstL; rw [if_neg (by omega)]; rfl
theorem fst_held : ((irange 0 (m : Int)).map fun k => (n : Int) + k) = (List.range m).map fun j => ((n + j : Nat) : Int) := by
  rw [irange_nat, List.map_map]
  refine range_congr fun i _ => ?_
  show (n : Int) + (i : Int) = _
  omega
end
theorem ienum_range {α : Type} {N : Nat} {F : Nat → α} : ienum ((List.range N).map F) = (List.range N).map fun v => (((v : Nat) : Int), F v) := by
  unfold ienum
  refine List.ext_getElem (by simp) fun i h1 h2 => ?_
  simp
theorem ienum_gi {α : Type} [Inhabited α] {l : List α} : ienum l = (List.range l.length).map fun j => (((j : Nat) : Int), gi l (j : Int)) := by
  conv => lhs; rw [show l = (List.range l.length).map fun j => gi l ((j : Nat) : Int) from List.ext_getElem (by simp) fun i h1 h2 => by rw [List.getElem_map, List.getElem_range, gi_nat h1]]
  exact ienum_range
theorem cut_lastN {α : Type} {l : List α} : cutL l none (some (-(1 : Int))) = l.dropLast := by
  unfold cutL
  rw [show HT.sIx l.length 0 none = 0 from rfl, show HT.sIx l.length l.length (some (-(1 : Int))) = if (-(1 : Int)) < 0 then (-(1 : Int) + (l.length : Int)).toNat else min (-(1 : Int)).toNat l.length from rfl, if_pos (by omega), List.drop_zero, List.dropLast_eq_take]
  congr 1
  omega
theorem helps_eq {N : Nat} {L : Nat → Rat} : (((ienum (cutL (rowT N L) none (some (-(1 : Int))))).filter (fun p => decide (p.2.1 < (0 : Int)))).map (fun p => p.1)) = ((List.range N).filter fun v => decide (L v < 0)).map fun v => ((v : Nat) : Int) := by
  have e1 : cutL (rowT N L) none (some (-(1 : Int))) = (List.range N).map fun v => qF (L v) := by
    rw [cut_lastN, rowT_snoc, List.dropLast_concat]
  rw [e1]
  have e2 : ienum ((List.range N).map fun v => qF (L v)) = (List.range N).map fun v => (((v : Nat) : Int), qF (L v)) := ienum_range
  rw [e2, List.filter_map, List.map_map]
  congr 1
  refine List.filter_congr fun v _ => ?_
  show decide ((qF (L v)).1 < 0) = _
  rw [decide_eq_decide]
  exact num_neg_iff
theorem cut_len {N : Nat} {L : Nat → Rat} (hN : N ≤ 9000000) : (ienum (cutL (rowT N L) none (some (-(1 : Int))))).length ≤ 10000000 := by
  rw [ienum_length, cut_lastN, List.length_dropLast, rowT_len]
  omega
/-- the least column that helps -/
theorem helps_head {N : Nat} {L : Nat → Rat} (h : ((List.range N).filter fun v => decide (L v < 0)).map (fun v => ((v : Nat) : Int)) ≠ []) : ∃ c < N, L c < 0 ∧ (∀ v < c, 0 ≤ L v) ∧ gi (((List.range N).filter fun v => decide (L v < 0)).map fun v => ((v : Nat) : Int)) 0 = (c : Int) ∧ InR (((List.range N).filter fun v => decide (L v < 0)).map fun v => ((v : Nat) : Int)) 0 := by
  cases e : (List.range N).filter fun v => decide (L v < 0) with
  | nil => rw [e] at h; exact (h rfl).elim
  | cons c r =>
    have mc : c ∈ (List.range N).filter fun v => decide (L v < 0) := by rw [e]; simp
    obtain ⟨m1, m2⟩ := List.mem_filter.mp mc
    refine ⟨c, List.mem_range.mp m1, of_decide_eq_true m2, fun v hv => ?_, by rw [List.map_cons]; exact gi_nat (k := 0) (by simp), ?_⟩
    · refine Classical.byContradiction fun q => ?_
      have neg : L v < 0 := by grind
      have mv : v ∈ (List.range N).filter fun v => decide (L v < 0) := List.mem_filter.mpr ⟨List.mem_range.mpr (by have := List.mem_range.mp m1; omega), decide_eq_true neg⟩
      rw [e] at mv
      have up : ((List.range N).filter fun v => decide (L v < 0)).Pairwise (· < ·) := List.pairwise_lt_range.filter _
      rw [e] at up
      rcases List.mem_cons.mp mv with q1 | q1
      · omega
      · have := (List.pairwise_cons.mp up).1 v q1; omega
    · unfold InR; simp; omega
theorem helps_none {N : Nat} {L : Nat → Rat} (h : ((List.range N).filter fun v => decide (L v < 0)).map (fun v => ((v : Nat) : Int)) = []) : ∀ v < N, 0 ≤ L v := fun v hv => by
  refine Classical.byContradiction fun q => ?_
  have neg : L v < 0 := by grind
  have mv : v ∈ (List.range N).filter fun v => decide (L v < 0) := List.mem_filter.mpr ⟨List.mem_range.mpr hv, decide_eq_true neg⟩
  rw [List.map_eq_nil_iff.mp h] at mv
  exact nomatch mv
end Sx
end TY
namespace DL
open PySem PySem.Spec L2
theorem keys_put {κ α : Type} [DecidableEq κ] (k : κ) (x : α) : ∀ m : List (κ × α), (putM m k x).map (·.1) = if k ∈ m.map (·.1) then m.map (·.1) else m.map (·.1) ++ [k]
  | [] => by simp [putM, putL]
  | (k', v) :: r => by
    have ih := keys_put k x r
    unfold putM at ih ⊢
    by_cases e : k' = k
    · simp [putL, e]
    · rw [putL, if_neg e, List.map_cons, ih]
      by_cases m : k ∈ r.map (·.1)
      · rw [if_pos m, List.map_cons, if_pos (List.mem_cons_of_mem _ m)]
      · rw [if_neg m, List.map_cons, if_neg (by rw [List.mem_cons]; exact fun h => h.elim (fun z => e z.symm) m)]; rfl
theorem keys_put_nodup {κ α : Type} [DecidableEq κ] {k : κ} {x : α} {m : List (κ × α)} (h : (m.map (·.1)).Nodup) : ((putM m k x).map (·.1)).Nodup := by
  rw [keys_put]
  split
  · exact h
  · rename_i hk
    exact List.nodup_append.mpr ⟨h, by simp, fun a ha b hb e => by rw [List.mem_singleton.mp hb] at e; exact hk (e ▸ ha)⟩
theorem mem_keys_put {κ α : Type} [DecidableEq κ] {k : κ} {x : α} {m : List (κ × α)} {a : κ} : a ∈ (putM m k x).map (·.1) ↔ a ∈ m.map (·.1) ∨ a = k := by
  rw [keys_put]
  split
  · rename_i hk
    exact ⟨.inl, fun h => h.elim id fun e => e ▸ hk⟩
  · rw [List.mem_append, List.mem_singleton]
theorem len_put {κ α : Type} [DecidableEq κ] (k : κ) (x : α) (m : List (κ × α)) : (putM m k x).length ≤ m.length + 1 := by
  have := congrArg List.length (keys_put k x m)
  rw [List.length_map] at this
  rw [this]
  split
  · rw [List.length_map]; omega
  · simp
end DL
namespace TY
open PySem PySem.Spec L2 DL
theorem mem_gi {l : List Int} {a : Int} (h : a ∈ l) : ∃ i : Int, 0 ≤ i ∧ i < l.length ∧ gi l i = a := by
  obtain ⟨i, hi, e⟩ := List.getElem_of_mem h
  exact ⟨i, by omega, by omega, by rw [gi_nat hi, e]⟩
theorem gi_up {l : List Int} (up : l.Pairwise (· < ·)) {i j : Int} (hi : 0 ≤ i) (h : i < j) (hj : j < l.length) : gi l i < gi l j := by
  rw [gi_int hi (by omega), gi_int (by omega) hj]
  exact List.pairwise_iff_getElem.mp up _ _ _ _ (by omega)
theorem up_nodup {l : List Int} (up : l.Pairwise (· < ·)) : l.Nodup := up.imp fun h e => by omega
structure partP (w : Web) (ps : List Int) : Prop where
  isw : IsWeb w
  n24 : w.1 ≤ 24
  up : ps.Pairwise (· < ·)
  rng : ∀ p ∈ ps, 0 ≤ p ∧ p < w.1
theorem partP.len {w : Web} {ps : List Int} (h : partP w ps) : ps.length ≤ 24 := by
  have := nodup_sub_len ps (irange 0 w.1) (up_nodup h.up) fun x m => mem_irange.mpr (h.rng x m)
  rw [irange_length] at this
  have := h.n24; omega
structure movedP (w : Web) (o : List Int) : Prop where
  isw : IsWeb w
  n24 : w.1 ≤ 24
  nd : o.Nodup
  len : (o.length : Int) = w.1
  rng : ∀ p ∈ o, 0 ≤ p ∧ p < w.1
theorem movedP.all {w : Web} {o : List Int} (h : movedP w o) {a : Int} (h0 : 0 ≤ a) (h1 : a < w.1) : a ∈ o := by
  refine Classical.byContradiction fun no => ?_
  have := nodup_sub_len (a :: o) (irange 0 w.1) (List.nodup_cons.mpr ⟨no, h.nd⟩) fun x m => mem_irange.mpr (by
    rcases List.mem_cons.mp m with rfl | m
    · exact ⟨h0, h1⟩
    · exact h.rng x m)
  rw [irange_length, List.length_cons] at this
  have := h.len; omega
def turnedF (w : Web) : Web := mkW w.1 fun i j => !tie w i j
structure webP (w : Web) : Prop where
  isw : IsWeb w
  n24 : w.1 ≤ 24
theorem turnedF_web {w : Web} (h : IsWeb w) : IsWeb (turnedF w) := mkW_web h.n0 _
theorem turned_tie {w : Web} (h : IsWeb w) {a b : Int} (ha : 0 ≤ a) (hb : 0 ≤ b) (ha' : a < w.1) (hb' : b < w.1) (hn : a ≠ b) : tie (turnedF w) a b = !tie w a b :=
  tie_mk' (r := fun i j => !tie w i j) (fun a b => by rw [tie_comm]) ha hb ha' hb' hn
theorem hk_keys {κ α : Type} [DecidableEq κ] {a : κ} : ∀ {m : List (κ × α)}, hk m a = true ↔ a ∈ m.map (·.1)
  | [] => by simp [hk, look]
  | (k, v) :: r => by
    have ih := hk_keys (a := a) (m := r)
    unfold hk at ih ⊢
    by_cases e : k = a
    · simp [look, e]
    · simp only [look, if_neg e, List.map_cons, List.mem_cons, ih]
      exact ⟨.inr, fun h => h.resolve_left fun q => e q.symm⟩
theorem gi_set {α : Type} [Inhabited α] {l : List α} {i j : Int} {x : α} (hi : 0 ≤ i) (hi' : i < l.length) (hj : 0 ≤ j) (hj' : j < l.length) : gi (l.set i.toNat x) j = if j = i then x else gi l j := by
  rw [gi_int hj (by rw [List.length_set]; exact hj'), List.getElem_set]
  by_cases e : j = i
  · subst e; simp
  · rw [if_neg (by omega), if_neg e, gi_int hj hj']
/-- rows of near places -/
structure NearI (n : Int) (S : Int → Int → Prop) (c : Nat) (r : List (List (Int × Bool))) : Prop where
  len : (r.length : Int) = n
  nd : ∀ a, 0 ≤ a → a < n → ((gi r a).map (·.1)).Nodup
  ln : ∀ a, 0 ≤ a → a < n → (gi r a).length ≤ c
  mem : ∀ a, 0 ≤ a → a < n → ∀ b, b ∈ (gi r a).map (·.1) ↔ S a b
theorem NearI.put {n : Int} {S : Int → Int → Prop} {c : Nat} {r : List (List (Int × Bool))} (h : NearI n S c r) {i : Int} (k : Int) (hi : 0 ≤ i) (hi' : i < n) :
    NearI n (fun a b => S a b ∨ (a = i ∧ b = k)) (c + 1) (r.set i.toNat (putM (gi r i) k true)) := by
  have hl := h.len
  have g : ∀ a, 0 ≤ a → a < n → gi (r.set i.toNat (putM (gi r i) k true)) a = if a = i then putM (gi r i) k true else gi r a := fun a a0 a1 => gi_set hi (by omega) a0 (by omega)
  refine ⟨by rw [List.length_set]; exact hl, fun a a0 a1 => ?_, fun a a0 a1 => ?_, fun a a0 a1 b => ?_⟩
  all_goals rw [g a a0 a1]; by_cases e : a = i
  · rw [if_pos e]; exact keys_put_nodup (h.nd i hi hi')
  · rw [if_neg e]; exact h.nd a a0 a1
  · rw [if_pos e]; have := len_put k true (gi r i); have := h.ln i hi hi'; omega
  · rw [if_neg e]; have := h.ln a a0 a1; omega
  · subst e; rw [if_pos rfl, mem_keys_put, h.mem a a0 a1]; simp
  · rw [if_neg e, h.mem a a0 a1]; simp [e]
theorem NearI.nil {n : Int} (h : 0 ≤ n) : NearI n (fun _ _ => False) 0 (List.replicate n.toNat []) := by
  have g : ∀ a, 0 ≤ a → a < n → gi (List.replicate n.toNat ([] : List (Int × Bool))) a = [] := fun a a0 a1 => by
    have := gi_mem (l := List.replicate n.toNat ([] : List (Int × Bool))) a0 (by rw [List.length_replicate]; omega)
    exact List.eq_of_mem_replicate this
  refine ⟨by rw [List.length_replicate]; omega, fun a a0 a1 => ?_, fun a a0 a1 => ?_, fun a a0 a1 b => ?_⟩
  all_goals rw [g a a0 a1]; simp
theorem NearI.tie {w : Web} (hw : IsWeb w) {S : Int → Int → Prop} {c : Nat} {r : List (List (Int × Bool))} (h : NearI w.1 S c r) (hS : ∀ a b, S a b ↔ (a, b) ∈ w.2 ∨ (b, a) ∈ w.2) {a : Int} (b : Int) (a0 : 0 ≤ a) (a1 : a < w.1) :
    hk (gi r a) b = tie w a b := by
  rw [Bool.eq_iff_iff, hk_keys, h.mem a a0 a1, hS]
  constructor
  · rintro (q | q)
    · exact (tie_mem (hw.mem _ q).2.1).mpr q
    · rw [tie_comm]; exact (tie_mem (hw.mem _ q).2.1).mpr q
  · intro t
    rcases Int.lt_or_gt_of_ne (tie_rng hw t).2.2.2.2 with q | q
    · exact .inl ((tie_mem q).mp t)
    · rw [tie_comm] at t; exact .inr ((tie_mem q).mp t)
structure joinP (webs : List Web) : Prop where
  len : webs.length ≤ 24
  ws : ∀ w ∈ webs, IsWeb w ∧ w.1 ≤ 24
theorem bare_web {n : Int} (h : 0 ≤ n) : IsWeb (n, []) := ⟨h, fun _ m => (by cases m), List.Pairwise.nil⟩
theorem joinP.bare {webs : List Web} (h : joinP webs) : putInP ((webs.length : Int), []) webs := { isw := bare_web (by omega), len := rfl, ws := h.ws, n24 := by have := h.len; show (webs.length : Int) ≤ 24; omega }
end TY
namespace TY
open PySem PySem.Spec L2 DL
/-- one place of each web -/
structure FirstsI (ws : List Web) (k : Int) (l : List (Int × Int)) : Prop where
  up : l.Pairwise (fun p q => p.1 < q.1)
  rng : ∀ p ∈ l, (0 ≤ p.1 ∧ p.1 < k) ∧ off ws p.1 ≤ p.2 ∧ p.2 < off ws p.1 + (gi ws p.1).1
theorem FirstsI.nil (ws : List Web) (k : Int) : FirstsI ws k [] := ⟨.nil, fun _ m => (by cases m)⟩
theorem FirstsI.mono {ws : List Web} {k j : Int} {l : List (Int × Int)} (h : FirstsI ws k l) (hk : k ≤ j) : FirstsI ws j l := ⟨h.up, fun p m => by have := h.rng p m; omega⟩
theorem FirstsI.snoc {ws : List Web} {k x : Int} {l : List (Int × Int)} (h : FirstsI ws k l) (h0 : 0 ≤ k) (x0 : 0 ≤ x) (x1 : x < (gi ws k).1) : FirstsI ws (k + 1) (l ++ [(k, off ws k + x)]) := by
  refine ⟨List.pairwise_append.mpr ⟨h.up, List.pairwise_singleton _ _, fun a ma b mb => ?_⟩, fun p m => ?_⟩
  · rw [List.mem_singleton.mp mb]; exact (h.rng a ma).1.2
  · rcases List.mem_append.mp m with m | m
    · have := h.rng p m; omega
    · rw [List.mem_singleton.mp m]; dsimp only; omega
end TY
namespace TY
open PySem PySem.Spec L2 DL
theorem turnP {v : Web} {ws : List Web} (h : putInP v ws) : putInP (turnedF v) (ws.map turnedF) := by
  refine ⟨turnedF_web h.isw, by rw [List.length_map]; exact h.len, fun w m => ?_, h.n24⟩
  obtain ⟨u, mu, rfl⟩ := List.mem_map.mp m
  exact ⟨turnedF_web (h.ws u mu).1, (h.ws u mu).2⟩
theorem joinP.turn {ws : List Web} (h : joinP ws) : joinP (ws.map turnedF) := ⟨by rw [List.length_map]; exact h.len, (turnP h.bare).ws⟩
end TY
namespace TY
open PySem PySem.Spec L2 DL
def bare : Web := (0, [])
end TY
namespace TY
open PySem PySem.Spec L2 DL
def nearL (w : Web) (p : Int) : List Int := (irange 0 w.1).filter fun b => tie w p b
structure nearLP (w : Web) (p : Int) : Prop where
  isw : IsWeb w
  n24 : w.1 ≤ 24
  p0 : 0 ≤ p
  p1 : p < w.1
theorem mem_nearL {w : Web} {p b : Int} : b ∈ nearL w p ↔ (0 ≤ b ∧ b < w.1) ∧ tie w p b = true := by unfold nearL; rw [List.mem_filter, mem_irange]
theorem nearL_up (w : Web) (p : Int) : (nearL w p).Pairwise (· < ·) := (irange_sorted 0 w.1).sublist List.filter_sublist
structure isK (w : Web) (n : Int) (k : List Int) : Prop where
  up : k.Pairwise (· < ·)
  rng : ∀ a ∈ k, 0 ≤ a ∧ a < n
  tied : k.Pairwise fun a b => tie w a b = true
theorem isK.nil (w : Web) (n : Int) : isK w n [] := ⟨.nil, fun _ m => (by cases m), .nil⟩
theorem isK.mono {w : Web} {n m : Int} {k : List Int} (h : isK w n k) (hm : n ≤ m) : isK w m k := ⟨h.up, fun a ha => by have := h.rng a ha; omega, h.tied⟩
theorem isK.snoc {w : Web} {n v : Int} {k : List Int} (h : isK w n k) (v0 : 0 ≤ v) (v1 : v < n) (hl : ∀ a ∈ k, a < v) (ht : ∀ a ∈ k, tie w a v = true) : isK w n (k ++ [v]) :=
  ⟨List.pairwise_append.mpr ⟨h.up, List.pairwise_singleton _ _, fun a ha b hb => by rw [List.mem_singleton.mp hb]; exact hl a ha⟩,
    fun a ha => by
      rcases List.mem_append.mp ha with ha | ha
      · exact h.rng a ha
      · rw [List.mem_singleton.mp ha]; exact ⟨v0, v1⟩,
    List.pairwise_append.mpr ⟨h.tied, List.pairwise_singleton _ _, fun a ha b hb => by rw [List.mem_singleton.mp hb]; exact ht a ha⟩⟩
theorem isK.init {w : Web} {n v : Int} {k : List Int} (h : isK w n (k ++ [v])) : isK w n k ∧ (0 ≤ v ∧ v < n) ∧ (∀ a ∈ k, a < v) ∧ ∀ a ∈ k, tie w a v = true := by
  obtain ⟨u1, _, u2⟩ := List.pairwise_append.mp h.up
  obtain ⟨t1, _, t2⟩ := List.pairwise_append.mp h.tied
  exact ⟨⟨u1, fun a ha => h.rng a (by simp [ha]), t1⟩, h.rng v (by simp), fun a ha => u2 a ha v (by simp), fun a ha => t2 a ha v (by simp)⟩
/-- all knots within the first places, in the order of the law's own search -/
def knotsTo (w : Web) : Nat → List (List Int)
  | 0 => [[]]
  | p + 1 => knotsTo w p ++ ((knotsTo w p).filter fun k => k.all fun o => inl (o, (p : Int)) w.2).map (· ++ [(p : Int)])
def knotsF (w : Web) : List (List Int) := knotsTo w w.1.toNat
structure knotsP (w : Web) : Prop where
  isw : IsWeb w
  n20 : w.1 ≤ 20
theorem mem_knots {w : Web} : ∀ (p : Nat) (k : List Int), k ∈ knotsTo w p ↔ isK w p k
  | 0, k => by
    unfold knotsTo
    rw [List.mem_singleton]
    constructor
    · rintro rfl; exact isK.nil w _
    · intro h
      cases k with
      | nil => rfl
      | cons a r => have := h.rng a (by simp); omega
  | p + 1, k => by
    unfold knotsTo
    rw [List.mem_append, mem_knots p, List.mem_map]
    constructor
    · rintro (h | ⟨l, hl, rfl⟩)
      · exact h.mono (by omega)
      · obtain ⟨m, ok⟩ := List.mem_filter.mp hl
        have hk := (mem_knots p l).mp m
        refine (hk.mono (m := ((p + 1 : Nat) : Int)) (by omega)).snoc (by omega) (by omega) (fun a ha => (hk.rng a ha).2) fun a ha => ?_
        have := List.all_eq_true.mp ok a ha
        rw [tie_lt (Int.le_of_lt (hk.rng a ha).2)]; exact this
    · intro h
      rcases List.eq_nil_or_concat k with rfl | ⟨l, v, rfl⟩
      · exact .inl (isK.nil w _)
      · rw [List.concat_eq_append] at h ⊢
        obtain ⟨h1, h2, h3, h4⟩ := h.init
        by_cases e : v = p
        · right
          subst e
          have hk : isK w p l := ⟨h1.up, fun a ha => ⟨(h1.rng a ha).1, h3 a ha⟩, h1.tied⟩
          refine ⟨l, List.mem_filter.mpr ⟨(mem_knots p l).mpr hk, List.all_eq_true.mpr fun a ha => ?_⟩, rfl⟩
          have := h4 a ha
          rwa [tie_lt (Int.le_of_lt (h3 a ha))] at this
        · left
          refine ⟨h.up, fun a ha => ⟨(h.rng a ha).1, ?_⟩, h.tied⟩
          rcases List.mem_append.mp ha with ha | ha
          · have := h3 a ha; omega
          · rw [List.mem_singleton.mp ha]; omega
theorem knots_nodup (w : Web) : ∀ p : Nat, (knotsTo w p).Nodup
  | 0 => by simp [knotsTo]
  | p + 1 => by
    unfold knotsTo
    refine List.nodup_append.mpr ⟨knots_nodup w p, map_nodup (List.Pairwise.filter _ (knots_nodup w p)) fun a _ b _ e => (List.append_inj' e rfl).1, fun a ha b hb e => ?_⟩
    subst e
    obtain ⟨l, _, rfl⟩ := List.mem_map.mp hb
    have := ((mem_knots p _).mp ha).rng p (by simp)
    omega
theorem knots_len (w : Web) : ∀ p : Nat, (knotsTo w p).length ≤ 2 ^ p
  | 0 => by simp [knotsTo]
  | p + 1 => by
    have ih := knots_len w p
    unfold knotsTo
    rw [List.length_append, List.length_map, Nat.pow_succ]
    have := List.length_filter_le (fun k : List Int => k.all fun o => inl (o, (p : Int)) w.2) (knotsTo w p)
    omega
theorem knots_big {w : Web} (h : knotsP w) (p : Nat) (hp : p ≤ w.1.toNat) : (knotsTo w p).length ≤ 1048576 :=
  Nat.le_trans (knots_len w p) (Nat.pow_le_pow_right (n := 2) (j := 20) (by omega) (by have := h.n20; omega))
theorem mem_knotsF {w : Web} (h : IsWeb w) (k : List Int) : k ∈ knotsF w ↔ isK w w.1 k := by
  unfold knotsF; rw [mem_knots, Int.toNat_of_nonneg h.n0]
theorem isK.len {w : Web} {n : Int} {k : List Int} (h : isK w n k) (h0 : 0 ≤ n) : (k.length : Int) ≤ n := by
  have := nodup_sub_len k (irange 0 n) (up_nodup h.up) fun a ha => mem_irange.mpr (h.rng a ha)
  rw [irange_length] at this; omega
def commonL (w : Web) (k : List Int) : List Int := (irange 0 w.1).filter fun v => k.all fun a => tie w a v
theorem mem_common {w : Web} {k : List Int} {v : Int} : v ∈ commonL w k ↔ (0 ≤ v ∧ v < w.1) ∧ ∀ a ∈ k, tie w a v = true := by
  unfold commonL; rw [List.mem_filter, mem_irange, List.all_eq_true]
theorem common_nil (w : Web) : commonL w [] = irange 0 w.1 := List.filter_eq_self.mpr fun _ _ => rfl
theorem common_snoc (w : Web) (k : List Int) (v : Int) : (commonL w k).filter (fun o => inl o (nearL w v)) = commonL w (k ++ [v]) := by
  unfold commonL
  rw [List.filter_filter]
  refine List.filter_congr fun o mo => ?_
  rw [List.all_append, Bool.and_comm]
  congr 1
  rw [Bool.eq_iff_iff, inl_iff, mem_nearL]
  simp only [List.all_cons, List.all_nil, Bool.and_true]
  exact ⟨fun h => h.2, fun h => ⟨mem_irange.mp mo, h⟩⟩
/-- may v be put behind k -/
def okL (k : List Int) (v : Int) : Bool := decide (k = []) || decide (gi k (-1) < v)
theorem okL_iff {k : List Int} (up : k.Pairwise (· < ·)) {v : Int} : okL k v = true ↔ ∀ a ∈ k, a < v := by
  rcases List.eq_nil_or_concat k with rfl | ⟨l, x, rfl⟩
  · simp [okL]
  · rw [List.concat_eq_append] at up ⊢
    obtain ⟨_, _, u⟩ := List.pairwise_append.mp up
    unfold okL
    rw [gi_last]
    simp only [List.append_eq_nil_iff, List.cons_ne_self, and_false, decide_false, Bool.false_or, decide_eq_true_eq, List.mem_append, List.mem_singleton]
    constructor
    · rintro h a (ha | rfl)
      · have := u a ha x (by simp); omega
      · exact h
    · intro h; exact h x (.inr rfl)
def kidsL (w : Web) (k : List Int) (vs : List Int) : List (List Int × List Int) := (vs.filter (okL k)).map fun v => (k ++ [v], commonL w (k ++ [v]))
theorem kids_snoc (w : Web) (k vs : List Int) (v : Int) : kidsL w k (vs ++ [v]) = kidsL w k vs ++ (if okL k v = true then [(k ++ [v], commonL w (k ++ [v]))] else []) := by
  unfold kidsL
  rw [List.filter_append, List.map_append]
  congr 1
  by_cases h : okL k v = true
  · rw [if_pos h, List.filter_cons, if_pos h]; rfl
  · rw [if_neg h, List.filter_cons, if_neg h]; rfl
theorem mem_kids {w : Web} {k vs l : List Int} : l ∈ (kidsL w k vs).map (·.1) ↔ ∃ v ∈ vs, okL k v = true ∧ l = k ++ [v] := by
  unfold kidsL
  rw [List.map_map, List.mem_map]
  constructor
  · rintro ⟨v, hv, rfl⟩
    obtain ⟨h1, h2⟩ := List.mem_filter.mp hv
    exact ⟨v, h1, h2, rfl⟩
  · rintro ⟨v, h1, h2, rfl⟩
    exact ⟨v, List.mem_filter.mpr ⟨h1, h2⟩, rfl⟩
/-- what stands found while place t is reached -/
structure GrowI (w : Web) (F : List (List Int × List Int)) (t : Int) : Prop where
  t0 : 0 ≤ t
  t1 : t ≤ F.length
  nd : (F.map (·.1)).Nodup
  ok : ∀ p ∈ F, isK w w.1 p.1 ∧ p.2 = commonL w p.1
  root : [] ∈ F.map (·.1)
  kids : ∀ i, 0 ≤ i → i < t → ∀ v ∈ commonL w (gi F i).1, okL (gi F i).1 v = true → (gi F i).1 ++ [v] ∈ F.map (·.1)
  par : ∀ k v, k ++ [v] ∈ F.map (·.1) → ∃ i, 0 ≤ i ∧ i < t ∧ (gi F i).1 = k
theorem GrowI.start (w : Web) : GrowI w [([], irange 0 w.1)] 0 :=
  ⟨Int.le_refl _, by simp, by simp, fun p m => by rw [List.mem_singleton.mp m]; exact ⟨isK.nil _ _, (common_nil w).symm⟩, by simp, fun i h0 h1 => by omega, fun k v m => by simp at m⟩
theorem GrowI.step {w : Web} {F : List (List Int × List Int)} {t : Int} (h : GrowI w F t) (ht : t < F.length) : GrowI w (F ++ kidsL w (gi F t).1 (commonL w (gi F t).1)) (t + 1) := by
  have t0 := h.t0
  have mt := gi_mem t0 ht
  obtain ⟨hk, _⟩ := h.ok _ mt
  have gl : ∀ i, 0 ≤ i → i < t + 1 → gi (F ++ kidsL w (gi F t).1 (commonL w (gi F t).1)) i = gi F i := fun i i0 i1 => gi_append_left i0 (by omega)
  have cnd : (commonL w (gi F t).1).Nodup := List.Pairwise.filter _ (irange_nodup _ _)
  refine ⟨by omega, by rw [List.length_append]; omega, ?_, ?_, ?_, ?_, ?_⟩
  · rw [List.map_append]
    refine List.nodup_append.mpr ⟨h.nd, ?_, fun a ha b hb e => ?_⟩
    · unfold kidsL
      rw [List.map_map]
      exact map_nodup (List.Pairwise.filter _ cnd) fun a _ b _ e => by simpa using e
    · subst e
      obtain ⟨v, _, _, rfl⟩ := mem_kids.mp hb
      obtain ⟨i, i0, i1, e⟩ := h.par _ _ ha
      have g1 : gi (F.map (·.1)) i = gi (F.map (·.1)) t := by rw [gi_map _ i0 (by omega), gi_map _ t0 ht, e]
      rw [gi_int i0 (by rw [List.length_map]; omega), gi_int t0 (by rw [List.length_map]; omega)] at g1
      have := (List.getElem_inj h.nd).mp g1
      omega
  · intro p hp
    rcases List.mem_append.mp hp with hp | hp
    · exact h.ok p hp
    · unfold kidsL at hp
      obtain ⟨v, hv, rfl⟩ := List.mem_map.mp hp
      obtain ⟨h1, h2⟩ := List.mem_filter.mp hv
      have h1 := mem_common.mp h1
      exact ⟨hk.snoc h1.1.1 h1.1.2 ((okL_iff hk.up).mp h2) h1.2, rfl⟩
  · rw [List.map_append, List.mem_append]; exact .inl h.root
  · intro i i0 i1 v hv ok
    rw [gl i i0 i1] at hv ok ⊢
    rw [List.map_append, List.mem_append]
    by_cases e : i = t
    · subst e
      exact .inr (mem_kids.mpr ⟨v, hv, ok, rfl⟩)
    · exact .inl (h.kids i i0 (by omega) v hv ok)
  · intro k v m
    rw [List.map_append, List.mem_append] at m
    rcases m with m | m
    · obtain ⟨i, i0, i1, e⟩ := h.par k v m
      exact ⟨i, i0, by omega, by rw [gl i i0 (by omega)]; exact e⟩
    · obtain ⟨u, _, _, e⟩ := mem_kids.mp m
      exact ⟨t, t0, by omega, by rw [gl t t0 (by omega)]; exact ((List.append_inj' e rfl).1).symm⟩
theorem GrowI.done {w : Web} {F : List (List Int × List Int)} {t : Int} (h : GrowI w F t) (ht : (F.length : Int) ≤ t) (k : List Int) : k ∈ F.map (·.1) ↔ isK w w.1 k := by
  constructor
  · intro m
    obtain ⟨p, mp, rfl⟩ := List.mem_map.mp m
    exact (h.ok p mp).1
  · intro hk
    have : ∀ n : Nat, ∀ k : List Int, k.length = n → isK w w.1 k → k ∈ F.map (·.1) := fun n => by
      induction n with
      | zero => intro k e _; rw [List.length_eq_zero_iff.mp e]; exact h.root
      | succ n ih =>
        intro k e hk
        rcases List.eq_nil_or_concat k with rfl | ⟨l, v, rfl⟩
        · simp at e
        · rw [List.concat_eq_append] at e hk ⊢
          obtain ⟨h1, h2, h3, h4⟩ := hk.init
          have ml := ih l (by simpa using e) h1
          obtain ⟨p, mp, rfl⟩ := List.mem_map.mp ml
          obtain ⟨i, hi, ei⟩ := List.getElem_of_mem mp
          have gi' : gi F (i : Int) = p := by rw [gi_nat hi, ei]
          have := h.kids i (by omega) (by omega) v (by rw [gi']; exact mem_common.mpr ⟨h2, h4⟩) (by rw [gi']; exact (okL_iff h1.up).mpr h3)
          rwa [gi'] at this
    exact this _ k rfl hk
theorem GrowI.len {w : Web} (hw : IsWeb w) {F : List (List Int × List Int)} {t : Int} (h : GrowI w F t) : F.length ≤ (knotsF w).length := by
  rw [← List.length_map (f := (·.1))]
  refine nodup_sub_len _ _ h.nd fun k m => (mem_knotsF hw k).mpr ?_
  obtain ⟨p, mp, rfl⟩ := List.mem_map.mp m
  exact (h.ok p mp).1
/-- growing, as the program does it -/
def bfsL (w : Web) : Nat → List (List Int × List Int) → Int → List (List Int × List Int)
  | 0, F, _ => F
  | n + 1, F, t => if t < F.length then bfsL w n (F ++ kidsL w (gi F t).1 (commonL w (gi F t).1)) (t + 1) else F
def grownF (w : Web) : List (List Int × List Int) := bfsL w (knotsF w).length [([], irange 0 w.1)] 0
theorem bfs_end {w : Web} {F : List (List Int × List Int)} {t : Int} (h : ¬ t < F.length) : ∀ n, bfsL w n F t = F
  | 0 => rfl
  | n + 1 => by unfold bfsL; rw [if_neg h]
theorem bfs_ok {w : Web} (hw : IsWeb w) : ∀ (n : Nat) (F : List (List Int × List Int)) (t : Int), GrowI w F t → n = (knotsF w).length - t.toNat → ∃ t', GrowI w (bfsL w n F t) t' ∧ ((bfsL w n F t).length : Int) ≤ t'
  | 0, F, t, G, e => ⟨t, G, by have := G.len hw; have := G.t0; show (F.length : Int) ≤ t; omega⟩
  | n + 1, F, t, G, e => by
    have gl := G.len hw
    have t0 := G.t0
    by_cases h : t < F.length
    · unfold bfsL
      rw [if_pos h]
      exact bfs_ok hw n _ _ (G.step h) (by omega)
    · rw [bfs_end h]; exact ⟨t, G, by omega⟩
theorem grownF_ok {w : Web} (hw : IsWeb w) : ∃ t, GrowI w (grownF w) t ∧ ((grownF w).length : Int) ≤ t := bfs_ok hw _ _ _ (GrowI.start w) (by simp)
end TY
namespace TY
open PySem PySem.Spec L2 DL
theorem cut_lo' {α : Type} {l : List α} {i : Int} (h0 : 0 ≤ i) (h : i ≤ l.length) : cutL l none (some i) = l.take i.toNat := by
  unfold cutL
  rw [show HT.sIx l.length 0 none = 0 from rfl, show HT.sIx l.length l.length (some i) = if i < 0 then (i + (l.length : Int)).toNat else min i.toNat l.length from rfl, if_neg (by omega), Nat.min_eq_left (by omega)]
  rfl
/-- the right hueings -/
structure isHue (w : Web) (h : List Int) : Prop where
  len : (h.length : Int) = w.1
  rng : ∀ x ∈ h, 0 ≤ x ∧ x < w.1
  pr : ∀ t ∈ w.2, gi h t.1 ≠ gi h t.2
theorem ienum_at {α : Type} {L : List α} {pre : List (Int × α)} {p : Int × α} {post : List (Int × α)} (e : ienum L = pre ++ p :: post) : pre.length < L.length ∧ p.1 = (pre.length : Int) ∧ L[pre.length]? = some p.2 := by
  have h1 : (ienum L)[pre.length]? = some p := by rw [e]; simp
  unfold ienum at h1
  rw [List.getElem?_map, List.getElem?_zipIdx] at h1
  cases q : L[pre.length]? with
  | none => rw [q] at h1; cases h1
  | some x =>
    rw [q] at h1
    have h2 : ((0 + pre.length : Nat) : Int) = p.1 ∧ x = p.2 := Prod.ext_iff.mp (Option.some.inj h1)
    exact ⟨(List.getElem?_eq_some_iff.mp q).1, by omega, by rw [h2.2]⟩
end TY
namespace TY
open PySem PySem.Spec L2 DL
end TY
namespace TY
open PySem PySem.Spec L2 DL
def fitA (w : Web) (p : Int) : List (List Int) → Nat
  | [] => 0
  | c :: r => if c.any (fun o => tie w p o) = true then fitA w p r + 1 else 0
def fitP (w : Web) (cl : List (List Int)) (p : Int) : List (List Int) :=
  if fitA w p cl = cl.length then cl ++ [[p]] else cl.set (fitA w p cl) (gi cl (fitA w p cl : Nat) ++ [p])
def fitF (w : Web) (ps : List Int) : List (List Int) := ps.foldl (fitP w) []
def firstF (w : Web) (ps : List Int) : List (Int × Int) := (ienum (fitF w ps)).flatMap fun c => c.2.map fun p => (p, c.1 + 1)
theorem fitA_cons (w : Web) (p : Int) (c : List Int) (r : List (List Int)) : fitA w p (c :: r) = if c.any (fun o => tie w p o) = true then fitA w p r + 1 else 0 := rfl
theorem gi_cons0 {α : Type} [Inhabited α] (c : α) (r : List α) : gi (c :: r) ((0 : Nat) : Int) = c := by rw [gi_nat (by simp)]; rfl
theorem gi_consS {α : Type} [Inhabited α] (c : α) (r : List α) {k : Nat} (h : k < r.length) : gi (c :: r) ((k + 1 : Nat) : Int) = gi r (k : Nat) := by
  rw [gi_nat (by simp; omega), gi_nat h]; rfl
theorem fitA_le (w : Web) (p : Int) : ∀ cl, fitA w p cl ≤ cl.length
  | [] => Nat.le_refl _
  | c :: r => by
    rw [fitA_cons]
    have := fitA_le w p r
    split <;> simp <;> omega
theorem fitA_free (w : Web) (p : Int) : ∀ cl, fitA w p cl < cl.length → ∀ o ∈ gi cl (fitA w p cl : Nat), tie w p o = false
  | [], h => by simp at h
  | c :: r, h => by
    rw [fitA_cons] at h ⊢
    by_cases hc : c.any (fun o => tie w p o) = true
    · rw [if_pos hc] at h ⊢
      have h1 : fitA w p r < r.length := by simp at h; omega
      rw [gi_consS c r h1]
      exact fitA_free w p r h1
    · rw [if_neg hc, gi_cons0]
      intro o mo
      simp only [List.any_eq_true, not_exists, not_and] at hc
      exact Bool.eq_false_iff.mpr (hc o mo)
/-- the classes so far -/
structure FitI (w : Web) (pre : List Int) (cl : List (List Int)) : Prop where
  pm : cl.flatten.Perm pre
  ap : ∀ c ∈ cl, ∀ a ∈ c, ∀ b ∈ c, a ≠ b → tie w a b = false
  ln : cl.length ≤ pre.length
theorem set_flatten {x : Int} : ∀ (cl : List (List Int)) (k : Nat), k < cl.length → (cl.set k (gi cl (k : Nat) ++ [x])).flatten.Perm (cl.flatten ++ [x])
  | [], k, h => by simp at h
  | c :: r, 0, _ => by
    rw [gi_cons0]
    show (((c ++ [x]) :: r).flatten).Perm _
    simp only [List.flatten_cons, List.append_assoc]
    exact List.Perm.append_left c List.perm_append_comm
  | c :: r, k + 1, h => by
    have hk : k < r.length := by simpa using h
    rw [gi_consS c r hk]
    show ((c :: r.set k (gi r (k : Nat) ++ [x])).flatten).Perm _
    simp only [List.flatten_cons, List.append_assoc]
    exact List.Perm.append_left c (set_flatten r k hk)
theorem FitI.step {w : Web} {pre : List Int} {cl : List (List Int)} {p : Int} (I : FitI w pre cl) : FitI w (pre ++ [p]) (fitP w cl p) := by
  unfold fitP
  by_cases h : fitA w p cl = cl.length
  · rw [if_pos h]
    refine ⟨?_, fun c mc => ?_, by simp; exact I.ln⟩
    · rw [List.flatten_append]
      exact I.pm.append (by simp)
    · rcases List.mem_append.mp mc with mc | mc
      · exact I.ap c mc
      · rw [List.mem_singleton.mp mc]
        intro a ha b hb ne
        exact absurd ((List.mem_singleton.mp ha).trans (List.mem_singleton.mp hb).symm) ne
  · rw [if_neg h]
    have hl : fitA w p cl < cl.length := by have := fitA_le w p cl; omega
    have fr := fitA_free w p cl hl
    refine ⟨(set_flatten cl _ hl).trans (I.pm.append_right _), fun c mc => ?_, by rw [List.length_set, List.length_append]; have := I.ln; omega⟩
    rcases List.mem_or_eq_of_mem_set mc with mc | rfl
    · exact I.ap c mc
    · have mg : gi cl (fitA w p cl : Nat) ∈ cl := gi_mem (by omega) (by omega)
      intro a ha b hb ne
      rcases List.mem_append.mp ha with ha | ha <;> rcases List.mem_append.mp hb with hb | hb
      · exact I.ap _ mg a ha b hb ne
      · rw [List.mem_singleton.mp hb, tie_comm]; exact fr a ha
      · rw [List.mem_singleton.mp ha]; exact fr b hb
      · exact absurd ((List.mem_singleton.mp ha).trans (List.mem_singleton.mp hb).symm) ne
structure Cl (w : Web) (K : List Int) : Prop where
  nd : K.Nodup
  rng : ∀ a ∈ K, 0 ≤ a ∧ a < w.1
  td : ∀ a ∈ K, ∀ b ∈ K, a ≠ b → tie w a b = true
theorem Cl.nil (w : Web) : Cl w [] := ⟨.nil, fun _ m => (by cases m), fun _ m => (by cases m)⟩
theorem Cl.sub {w : Web} {K L : List Int} (h : Cl w K) (nd : L.Nodup) (s : ∀ a ∈ L, a ∈ K) : Cl w L := ⟨nd, fun a m => h.rng a (s a m), fun a ma b mb => h.td a (s a ma) b (s b mb)⟩
theorem Cl.snoc {w : Web} (hw : IsWeb w) {K : List Int} {p : Int} (h : Cl w K) (hp : 0 ≤ p ∧ p < w.1) (ht : ∀ b ∈ K, tie w p b = true) : Cl w (K ++ [p]) := by
  have np : p ∉ K := fun m => by have := ht p m; rw [tie_self hw] at this; cases this
  refine ⟨List.nodup_append.mpr ⟨h.nd, by simp, fun a ha b hb e => by rw [List.mem_singleton.mp hb] at e; subst e; exact np ha⟩, fun a ma => ?_, fun a ma b mb ne => ?_⟩
  · rcases List.mem_append.mp ma with ma | ma
    · exact h.rng a ma
    · rw [List.mem_singleton.mp ma]; exact hp
  · rcases List.mem_append.mp ma with ma | ma <;> rcases List.mem_append.mp mb with mb | mb
    · exact h.td a ma b mb ne
    · rw [List.mem_singleton.mp mb, tie_comm]; exact ht a ma
    · rw [List.mem_singleton.mp ma]; exact ht b mb
    · exact absurd ((List.mem_singleton.mp ma).trans (List.mem_singleton.mp mb).symm) ne
theorem Cl.len {w : Web} {K : List Int} (h : Cl w K) (h0 : 0 ≤ w.1) : (K.length : Int) ≤ w.1 := by
  have := nodup_sub_len K (irange 0 w.1) h.nd fun a m => mem_irange.mpr (h.rng a m)
  rw [irange_length] at this; omega
def nextL (w : Web) (p : Int) (r : List (Int × Int)) : List Int := (r.filter fun x => tie w p x.1).map fun x => x.1
/-- the places not yet looked at stand in r, the last one ahead -/
def growL (w : Web) (rec : List Int → List Int → List Int → List Int) (knot : List Int) : List (Int × Int) → List Int → List Int
  | [], b => b
  | x :: r, b => if (knot.length : Int) + x.2 ≤ (b.length : Int) then b else growL w rec knot r (rec b (knot ++ [x.1]) (nextL w x.1 r.reverse))
def betK (knot best : List Int) : List Int := if (best.length : Int) < (knot.length : Int) then knot else best
def growF (w : Web) : Nat → List Int → List Int → List Int → List Int
  | 0, best, _, _ => best
  | D + 1, best, knot, left => growL w (growF w D) knot (firstF w left).reverse (betK knot best)
def bestF (w : Web) : List Int := growF w 30 [] [] (irange 0 w.1)
def mostF (w : Web) : Int × List Int := (((bestF w).length : Int), sortI (bestF w))
theorem isK.cl {w : Web} {k : List Int} (h : isK w w.1 k) : Cl w k := ⟨up_nodup h.up, h.rng, fun a ha b hb ne => by
  have key : ∀ {l : List Int}, l.Pairwise (fun a b => tie w a b = true) → ∀ a ∈ l, ∀ b ∈ l, a ≠ b → tie w a b = true := fun {l} h => by
    induction l with
    | nil => intro a m; cases m
    | cons x r ih =>
      obtain ⟨h1, h2⟩ := List.pairwise_cons.mp h
      intro a ha b hb ne
      rcases List.mem_cons.mp ha with ea | ha <;> rcases List.mem_cons.mp hb with eb | hb
      · exact absurd (ea.trans eb.symm) ne
      · rw [ea]; exact h1 b hb
      · rw [eb, tie_comm]; exact h1 a ha
      · exact ih h2 a ha b hb ne
  exact key h.tied a ha b hb ne⟩
theorem Cl.isK {w : Web} {k : List Int} (h : Cl w k) : TY.isK w w.1 (sortI k) := by
  have up : (sortI k).Pairwise (· < ·) := by
    have h1 := sortI_sorted k
    have h2 : (sortI k).Nodup := (sortI_perm k).nodup_iff.mpr h.nd
    refine (h1.and h2).imp fun {a b} z => ?_
    have := z.1; have := z.2; omega
  have mm : ∀ a, a ∈ sortI k ↔ a ∈ k := fun a => (sortI_perm k).mem_iff
  refine ⟨up, fun a m => h.rng a ((mm a).mp m), ?_⟩
  refine List.Pairwise.imp_of_mem ?_ up
  intro a b ma mb lt
  exact h.td a ((mm a).mp ma) b ((mm b).mp mb) (by omega)
/-- what is told: a knot, none has more places -/
structure MostO (w : Web) (r : Int × List Int) : Prop where
  k : isK w w.1 r.2
  len : (r.2.length : Int) = r.1
  top : ∀ S, Cl w S → (S.length : Int) ≤ r.1
theorem MostO.uniq {w : Web} {r s : Int × List Int} (h : MostO w r) (h' : MostO w s) : r.1 = s.1 := by
  have h1 := h.top s.2 h'.k.cl; have h2 := h'.top r.2 h.k.cl
  have := h.len; have := h'.len; omega
end TY
namespace TY
open PySem PySem.Spec L2 DL
theorem putM_new {κ α : Type} [DecidableEq κ] {k : κ} {x : α} : ∀ {m : List (κ × α)}, k ∉ m.map (·.1) → putM m k x = m ++ [(k, x)]
  | [], _ => rfl
  | (k', v) :: r, h => by
    have h1 : k' ≠ k := fun e => h (by simp [e])
    have h2 : k ∉ r.map (·.1) := fun m => h (by simp only [List.map_cons, List.mem_cons]; exact .inr m)
    have ih := putM_new (x := x) h2
    show (if k' = k then _ else (k', v) :: putM r k x) = _
    rw [if_neg h1, ih]; rfl
end TY
namespace TY
open PySem PySem.Spec L2 DL
theorem GrowI.perm {w : Web} (hw : IsWeb w) {F : List (List Int × List Int)} {t : Int} (h : GrowI w F t) (ht : (F.length : Int) ≤ t) : (F.map (·.1)).Perm (knotsF w) :=
  (List.perm_ext_iff_of_nodup h.nd (knots_nodup w _)).mpr fun k => (h.done ht k).trans (mem_knotsF hw k).symm
end TY
namespace TY
open PySem PySem.Spec L2 DL
def fullL (w : Web) : List (List Int) := ((grownF w).filter fun p => decide (p.2 = ([] : List Int))).map fun p => p.1
def fullF (w : Web) : List (List Int) := sortK (fullL w)
theorem mem_fullL {w : Web} (hw : IsWeb w) {k : List Int} : k ∈ fullL w ↔ isK w w.1 k ∧ commonL w k = [] := by
  obtain ⟨t, G, ht⟩ := grownF_ok hw
  unfold fullL
  rw [List.mem_map]
  constructor
  · rintro ⟨p, hp, rfl⟩
    obtain ⟨m, e⟩ := List.mem_filter.mp hp
    obtain ⟨h1, h2⟩ := G.ok p m
    exact ⟨h1, by rw [← h2]; exact of_decide_eq_true e⟩
  · rintro ⟨h1, h2⟩
    obtain ⟨p, mp, rfl⟩ := List.mem_map.mp ((G.done ht k).mpr h1)
    exact ⟨p, List.mem_filter.mpr ⟨mp, by rw [decide_eq_true_eq, (G.ok p mp).2, h2]⟩, rfl⟩
theorem fullL_nodup {w : Web} (hw : IsWeb w) : (fullL w).Nodup := by
  obtain ⟨t, G, ht⟩ := grownF_ok hw
  exact G.nd.sublist (List.Sublist.map _ List.filter_sublist)
theorem fullL_len {w : Web} (hw : IsWeb w) : (fullL w).length ≤ (knotsF w).length := nodup_sub_len _ _ (fullL_nodup hw) fun k m => (mem_knotsF hw k).mpr ((mem_fullL hw).mp m).1
theorem fullL_ne {w : Web} (hw : IsWeb w) (h2 : 2 ≤ (fullL w).length) : ∀ k ∈ fullL w, k ≠ [] := by
  rintro k mk rfl
  have h := ((mem_fullL hw).mp mk).2
  rw [common_nil] at h
  have n0 : w.1 ≤ 0 := by have := irange_length 0 w.1; rw [h] at this; simp at this; omega
  have := nodup_sub_len (fullL w) [[]] (fullL_nodup hw) fun k m => by
    have hk := ((mem_fullL hw).mp m).1
    cases k with
    | nil => simp
    | cons a r => have := hk.rng a (by simp); omega
  simp at this; omega
end TY
namespace TY
open PySem PySem.Spec L2 DL
theorem up_ext' {l m : List Int} (hl : l.Pairwise (· < ·)) (hm : m.Pairwise (· < ·)) (h : ∀ x, x ∈ l ↔ x ∈ m) : l = m :=
  List.Perm.eq_of_pairwise (fun a b _ _ h1 h2 => by omega) hl hm ((List.perm_ext_iff_of_nodup (up_nodup hl) (up_nodup hm)).mpr h)
theorem mem_fullF {w : Web} (hw : IsWeb w) {k : List Int} : k ∈ fullF w ↔ isK w w.1 k ∧ commonL w k = [] := by
  unfold fullF; rw [(sortK_perm _).mem_iff]; exact mem_fullL hw
theorem fullF_len {w : Web} (h : knotsP w) : (fullF w).length ≤ 1048576 := by
  have h1 := fullL_len h.isw
  have h2 := knots_big h _ (Nat.le_refl _)
  have h3 : (fullF w).length = (fullL w).length := (sortK_perm _).length_eq
  unfold knotsF at h1; omega
/-- each knot lies in a full one -/
theorem ext_full {w : Web} (hw : IsWeb w) : ∀ (n : Nat) (k : List Int), isK w w.1 k → w.1.toNat ≤ k.length + n → ∃ f ∈ fullF w, ∀ a ∈ k, a ∈ f
  | n, k, hk, hn => by
    cases e : commonL w k with
    | nil => exact ⟨k, (mem_fullF hw).mpr ⟨hk, e⟩, fun _ m => m⟩
    | cons v r =>
      have mv : v ∈ commonL w k := by rw [e]; simp
      obtain ⟨rv, tv⟩ := mem_common.mp mv
      have c2 : Cl w (k ++ [v]) := hk.cl.snoc hw rv fun b mb => by rw [tie_comm]; exact tv b mb
      have k2 := c2.isK
      have l2 : (sortI (k ++ [v])).length = k.length + 1 := by rw [(sortI_perm _).length_eq]; simp
      cases n with
      | zero => have := k2.len hw.n0; omega
      | succ n =>
        obtain ⟨f, mf, hf⟩ := ext_full hw n _ k2 (by omega)
        exact ⟨f, mf, fun a ma => hf a ((sortI_perm _).mem_iff.mpr (by simp [ma]))⟩
theorem knot_in_full {w : Web} (hw : IsWeb w) {k : List Int} (hk : isK w w.1 k) : ∃ f ∈ fullF w, ∀ a ∈ k, a ∈ f := ext_full hw w.1.toNat k hk (by omega)
end TY
namespace TY
open PySem PySem.Spec L2 DL
/-- a sum of fractions -/
def sumR : List Rat → Rat
  | [] => 0
  | x :: r => x + sumR r
theorem sumR_append (a b : List Rat) : sumR (a ++ b) = sumR a + sumR b := by
  induction a with
  | nil => show sumR b = 0 + sumR b; grind
  | cons x a ih => show x + sumR (a ++ b) = (x + sumR a) + sumR b; rw [ih]; grind
theorem sumR_snoc (a : List Rat) (x : Rat) : sumR (a ++ [x]) = sumR a + x := by
  rw [sumR_append]; show sumR a + (x + 0) = _; grind
theorem sumR_range (m : Nat) (f : Nat → Rat) : sumR ((List.range m).map f) = Sx.sumQ m f := by
  induction m with
  | zero => rfl
  | succ m ih => rw [List.range_succ, List.map_append, List.map_singleton, sumR_snoc, ih]; rfl
theorem sumR_filter {α : Type} (l : List α) (pr : α → Bool) (f : α → Rat) : sumR ((l.filter pr).map f) = sumR (l.map fun x => if pr x then f x else 0) := by
  induction l with
  | nil => rfl
  | cons x r ih =>
    rw [List.map_cons]
    show _ = (if pr x then f x else 0) + sumR (r.map fun x => if pr x then f x else 0)
    rw [← ih]
    by_cases h : pr x = true
    · rw [List.filter_cons_of_pos h, if_pos h]; rfl
    · rw [List.filter_cons_of_neg h, if_neg h]; grind
theorem sumR_le {α : Type} {l : List α} {f g : α → Rat} (h : ∀ x ∈ l, f x ≤ g x) : sumR (l.map f) ≤ sumR (l.map g) := by
  induction l with
  | nil => exact Rat.le_refl
  | cons x r ih =>
    show f x + sumR (r.map f) ≤ g x + sumR (r.map g)
    have h1 := ih fun y hy => h y (List.mem_cons_of_mem _ hy)
    have h2 := h x List.mem_cons_self
    grind
theorem sumR_congr {α : Type} {l : List α} {f g : α → Rat} (h : ∀ x ∈ l, f x = g x) : sumR (l.map f) = sumR (l.map g) := by
  rw [List.map_congr_left h]
theorem sumR_mul {α : Type} (l : List α) (a : Rat) (f : α → Rat) : sumR (l.map fun x => a * f x) = a * sumR (l.map f) := by
  induction l with
  | nil => show (0 : Rat) = a * 0; grind
  | cons x r ih => show a * f x + sumR (r.map fun x => a * f x) = a * (f x + sumR (r.map f)); rw [ih]; grind
theorem sumR_add {α : Type} (l : List α) (f g : α → Rat) : sumR (l.map fun x => f x + g x) = sumR (l.map f) + sumR (l.map g) := by
  induction l with
  | nil => show (0 : Rat) = 0 + 0; grind
  | cons x r ih => show f x + g x + sumR (r.map fun x => f x + g x) = (f x + sumR (r.map f)) + (g x + sumR (r.map g)); rw [ih]; grind
theorem sumR_swap {α β : Type} (l : List α) (k : List β) (f : α → β → Rat) : sumR (l.map fun x => sumR (k.map fun y => f x y)) = sumR (k.map fun y => sumR (l.map fun x => f x y)) := by
  induction l with
  | nil =>
    show (0 : Rat) = sumR (k.map fun _ => 0)
    have := sumR_mul k 0 fun _ => (0 : Rat)
    rw [sumR_congr (g := fun _ => 0 * 0) fun _ _ => by grind] 
    rw [this]; grind
  | cons x r ih => 
    show sumR (k.map fun y => f x y) + sumR (r.map fun x => sumR (k.map fun y => f x y)) = sumR (k.map fun y => f x y + sumR (r.map fun x => f x y))
    rw [sumR_add, ih]
/-- a rising list of places -/
theorem sumR_up {n : Int} {K : List Int} (up : K.Pairwise (· < ·)) (rng : ∀ a ∈ K, 0 ≤ a ∧ a < n) (f : Int → Rat) : sumR (K.map f) = sumR ((irange 0 n).map fun p => if inl p K then f p else 0) := by
  have e : K = (irange 0 n).filter fun p => inl p K := up_ext' up ((irange_sorted 0 n).sublist List.filter_sublist) fun x => by
    rw [List.mem_filter, mem_irange, inl_iff]
    exact ⟨fun h => ⟨rng x h, h⟩, fun h => h.2⟩
  conv => lhs; rw [e]
  rw [sumR_filter]
/-- a worth, a cover and weights of it -/
structure ShOk (w : Web) (x : Rat) (C : List (List Int × Rat)) (W : List Rat) : Prop where
  cin : ∀ p ∈ C, isK (turnedF w) w.1 p.1 ∧ p.1 ≠ [] ∧ 0 < p.2 ∧ Sx.Sm 128 p.2
  clen : C.length ≤ 7
  cov : ∀ place : Int, 0 ≤ place → place < w.1 → 1 ≤ sumR ((C.filter fun p => inl place p.1).map (·.2))
  cw : sumR (C.map (·.2)) = x
  wlen : (W.length : Int) = w.1
  win : ∀ y ∈ W, 0 ≤ y ∧ Sx.Sm 128 y
  wap : ∀ K, isK (turnedF w) w.1 K → sumR (K.map fun p => gi W p) ≤ 1
  ww : sumR W = x
  xs : Sx.Sm 128 x
namespace Sx
section
variable {n m : Nat} {A : Nat → Nat → Bool} {R : Nat → Nat → Rat} {L : Nat → Rat} {H : Nat → Nat}
/-- few shares are above nought -/
theorem few_shares (E : Eqv m (n + m) (fstR n m A) (fstL n m) R L H) : ((List.range m).filter fun j => decide (0 < L (n + j))).length ≤ n := by
  have nd1 : ((List.range m).map H).Nodup := by
    unfold List.Nodup
    rw [List.pairwise_map]
    exact List.Pairwise.imp_of_mem (R := fun a b => a ≠ b) (fun ha hb ne e => ne (E.inj (List.mem_range.mp ha) (List.mem_range.mp hb) e)) List.nodup_range
  have nd2 : (((List.range m).filter fun j => decide (0 < L (n + j))).map fun j => n + j).Nodup := by
    unfold List.Nodup
    rw [List.pairwise_map]
    exact List.Pairwise.imp (fun ne e => ne (by omega)) (List.nodup_range.filter _)
  have nd : ((List.range m).map H ++ ((List.range m).filter fun j => decide (0 < L (n + j))).map fun j => n + j).Nodup := by
    refine List.nodup_append.mpr ⟨nd1, nd2, fun a ha b hb e => ?_⟩
    obtain ⟨k, hk, rfl⟩ := List.mem_map.mp ha
    obtain ⟨j, hj, rfl⟩ := List.mem_map.mp hb
    have h1 := E.unL k (List.mem_range.mp hk)
    have h2 := of_decide_eq_true (List.mem_filter.mp hj).2
    rw [e] at h1
    grind
  have := nodup_sub_len _ (List.range (n + m)) nd fun a ha => by
    rcases List.mem_append.mp ha with q | q
    · obtain ⟨k, hk, rfl⟩ := List.mem_map.mp q
      exact List.mem_range.mpr (E.hl k (List.mem_range.mp hk))
    · obtain ⟨j, hj, rfl⟩ := List.mem_map.mp q
      have := List.mem_range.mp (List.mem_filter.mp hj).1
      exact List.mem_range.mpr (by omega)
  simp only [List.length_append, List.length_map, List.length_range] at this
  omega
theorem wt_cases (E : Eqv m (n + m) (fstR n m A) (fstL n m) R L H) (p : Nat) : wt n m R H p = 0 ∨ ∃ k < m, wt n m R H p = R k (n + m) := by
  unfold wt
  by_cases h : ∃ k < m, H k = p
  · obtain ⟨k, hk, e⟩ := h
    right
    refine ⟨k, hk, ?_⟩
    rw [sumQ_one (j := k) hk fun i hi ne => if_neg fun q => ne (E.inj hi hk (q.trans e.symm)), if_pos e]
  · left
    exact sumQ_zero fun k hk => if_neg fun q => h ⟨k, hk, q⟩
/-- what the table tells -/
theorem sh_ok {w : Web} (hw : IsWeb w) (hn : (n : Int) = w.1) (h7 : n ≤ 7) {sets : List (List Int)} (es : ∀ k, k ∈ sets ↔ k ∈ fullF (turnedF w) ∧ k ≠ []) (em : sets.length = m) (eA : ∀ j p : Nat, A j p = inl (p : Int) (gi sets (j : Int)))
    (E : Eqv m (n + m) (fstR n m A) (fstL n m) R L H) (fe : ∀ j < m, 0 ≤ R j (n + m)) (no : ∀ v < n + m, 0 ≤ L v) :
    ShOk w (L (n + m)) (((List.range m).filter fun j => decide (0 < L (n + j))).map fun j : Nat => (gi sets (j : Int), L (n + j))) ((List.range n).map fun p => wt n m R H p) := by
  have sm := eqv_sm h7 E
  have tw := turnedF_web hw
  have t1 : (turnedF w).1 = w.1 := rfl
  have mem : ∀ {j}, j ∈ (List.range m).filter (fun j => decide (0 < L (n + j))) ↔ j < m ∧ 0 < L (n + j) := by
    intro j; rw [List.mem_filter, List.mem_range]; simp
  have gw : ∀ p : Nat, p < n → gi ((List.range n).map fun p => wt n m R H p) (p : Int) = wt n m R H p := fun p hp => range_gi hp
  have gs : ∀ j < m, gi sets (j : Int) ∈ sets := fun j hj => gi_mem (by omega) (by omega)
  refine ⟨fun p hp => ?_, by rw [List.length_map]; exact Nat.le_trans (few_shares E) h7, fun place p0 p1 => ?_, ?_, by simp; omega, fun y hy => ?_, fun K hK => ?_, ?_, sm.2 _⟩
  · obtain ⟨j, hj, rfl⟩ := List.mem_map.mp hp
    obtain ⟨hj, pos⟩ := mem.mp hj
    obtain ⟨h1, h2⟩ := (es _).mp (gs j hj)
    exact ⟨((mem_fullF tw).mp h1).1, h2, pos, sm.2 _⟩
  · obtain ⟨p, rfl⟩ := Int.eq_ofNat_of_zero_le p0
    have hp : p < n := by omega
    have c := covered E hp (no p (by omega))
    rw [sumR_filter, List.map_map, sumR_filter, sumR_range]
    rw [sumQ_congr (g := fun j => if A j p then L (n + j) else 0)] 
    · exact c
    · intro j hj
      show (if decide (0 < L (n + j)) = true then (if inl (p : Int) (gi sets (j : Int)) = true then L (n + j) else 0) else 0) = _
      rw [← eA j p]
      have := no (n + j) (by omega)
      by_cases q : 0 < L (n + j)
      · rw [if_pos (decide_eq_true q)]
      · rw [if_neg (by simpa using q)]
        split
        · grind
        · rfl
  · rw [List.map_map, sumR_filter, sumR_range, worth_cover E]
    refine sumQ_congr fun j hj => ?_
    show (if decide (0 < L (n + j)) = true then L (n + j) else 0) = _
    have := no (n + j) (by omega)
    by_cases q : 0 < L (n + j)
    · rw [if_pos (decide_eq_true q)]
    · rw [if_neg (by simpa using q)]; grind
  · obtain ⟨p, hp, rfl⟩ := List.mem_map.mp hy
    rcases wt_cases E p with e | ⟨k, hk, e⟩
    · rw [e]; exact ⟨Rat.le_refl, (sm_le1 (.inl rfl)).mono (by omega)⟩
    · rw [e]; exact ⟨fe k hk, sm.1 k hk _⟩
  · obtain ⟨f, mf, sub⟩ := knot_in_full tw hK
    have kf := ((mem_fullF tw).mp mf).1
    cases e : K with
    | nil => show (0 : Rat) ≤ 1; decide
    | cons a r =>
      have ne : f ≠ [] := fun z => by
        have := sub a (by rw [e]; simp)
        rw [z] at this; exact nomatch this
      obtain ⟨j, hj, ej⟩ := List.getElem_of_mem ((es f).mpr ⟨mf, ne⟩)
      have hj2 : j < m := by omega
      have gj : gi sets (j : Int) = f := by rw [gi_nat hj]; exact ej
      rw [← e]
      have b := weighed E fe hj2
      rw [sumR_up hK.up hK.rng fun p => gi ((List.range n).map fun p => wt n m R H p) p]
      have step : sumR ((irange 0 w.1).map fun p => if inl p K then gi ((List.range n).map fun p => wt n m R H p) p else 0) ≤ sumQ n fun p => if A j p then wt n m R H p else 0 := by
        rw [← hn, irange_nat, List.map_map, ← sumR_range]
        refine sumR_le fun p hp => ?_
        have hp := List.mem_range.mp hp
        show (if inl (p : Int) K = true then gi ((List.range n).map fun p => wt n m R H p) (p : Int) else 0) ≤ _
        rw [gw p hp, eA j p, gj]
        have nn : 0 ≤ wt n m R H p := by
          rcases wt_cases E p with e | ⟨k, hk, e⟩
          · rw [e]; exact Rat.le_refl
          · rw [e]; exact fe k hk
        by_cases q : inl (p : Int) K = true
        · rw [if_pos q, if_pos (inl_iff.mpr (sub _ (inl_iff.mp q)))]; exact Rat.le_refl
        · rw [if_neg q]
          split
          · exact nn
          · exact Rat.le_refl
      exact Rat.le_trans step b
  · rw [sumR_range, ← worth_weights E]
end
end Sx
end TY
namespace TY
open PySem PySem.Spec L2 DL
def toR (p : Int × Int) : Rat := (p.1 : Rat) / (p.2 : Rat)
theorem toR_q (x : Rat) : toR (qF x) = x := qF_div x
theorem icast_ne {b : Int} (h : 0 < b) : (b : Rat) ≠ 0 := Sx.int_ne (by omega)
theorem icast_pos {b : Int} (h : 0 < b) : (0 : Rat) < (b : Rat) := by
  have : ((0 : Int) : Rat) < (b : Rat) := Rat.intCast_lt_intCast.mpr h
  exact this
theorem toR_mul {p : Int × Int} (h : 0 < p.2) : toR p * (p.2 : Rat) = (p.1 : Rat) := by
  unfold toR
  have := icast_ne h
  grind
theorem cross_le {p q : Int × Int} (hp : 0 < p.2) (hq : 0 < q.2) : toR p ≤ toR q ↔ p.1 * q.2 ≤ q.1 * p.2 := by
  have e1 := toR_mul hp
  have e2 := toR_mul hq
  have b := icast_pos hp
  have d := icast_pos hq
  have bd := Rat.mul_pos b d
  rw [← Rat.intCast_le_intCast, Rat.intCast_mul, Rat.intCast_mul, ← e1, ← e2]
  generalize toR p = P at *
  generalize toR q = Q at *
  generalize ((p.2 : Int) : Rat) = B at *
  generalize ((q.2 : Int) : Rat) = E at *
  constructor
  · intro h
    have := Rat.mul_nonneg (show 0 ≤ Q - P by grind) (show 0 ≤ B * E by grind)
    grind
  · intro h
    refine Classical.byContradiction fun n => ?_
    have := Rat.mul_pos (show 0 < P - Q by grind) bd
    grind
theorem cross_lt {p q : Int × Int} (hp : 0 < p.2) (hq : 0 < q.2) : toR p < toR q ↔ p.1 * q.2 < q.1 * p.2 := by
  have h := cross_le hq hp
  constructor
  · intro a
    have : ¬ toR q ≤ toR p := by grind
    rw [h] at this; omega
  · intro a
    have : ¬ q.1 * p.2 ≤ p.1 * q.2 := by omega
    rw [← h] at this; grind
theorem cross_eq {p q : Int × Int} (hp : 0 < p.2) (hq : 0 < q.2) : toR p = toR q ↔ p.1 * q.2 = q.1 * p.2 := by
  have h1 := cross_le hp hq
  have h2 := cross_le hq hp
  constructor
  · intro a
    have := h1.mp (by rw [a]; exact Rat.le_refl); have := h2.mp (by rw [a]; exact Rat.le_refl); omega
  · intro a
    have := h1.mpr (by omega); have := h2.mpr (by omega); grind
theorem toR_one {p : Int × Int} (hp : 0 < p.2) : (toR p < 1 ↔ p.1 < p.2) ∧ (1 < toR p ↔ p.2 < p.1) := by
  have e : toR (1, 1) = 1 := by decide +kernel
  have h1 := cross_lt (p := p) (q := (1, 1)) hp (by decide)
  have h2 := cross_lt (p := (1, 1)) (q := p) (by decide) hp
  rw [e] at h1 h2
  refine ⟨h1.trans ?_, h2.trans ?_⟩
  · show p.1 * 1 < 1 * p.2 ↔ _; omega
  · show 1 * p.2 < p.1 * 1 ↔ _; omega
def sumStep (a p : Int × Int) : Int × Int := (a.1 * p.2 + p.1 * a.2, a.2 * p.2)
def sumF (x : Bool × List (Int × Int)) : Int × Int := x.2.foldl sumStep (0, 1)
def bl (p : Int × Int) : Nat := Nat.log2 (p.1.natAbs + p.2.natAbs) + 2
def bitsL : List (Int × Int) → Nat
  | [] => 1
  | p :: r => bl p + bitsL r
def sumP (x : Bool × List (Int × Int)) : Prop := bitsL x.2 ≤ 4500
theorem bitsL_append (a b : List (Int × Int)) : bitsL (a ++ b) + 1 = bitsL a + bitsL b := by
  induction a with
  | nil => show bitsL b + 1 = 1 + bitsL b; omega
  | cons p a ih => show bl p + bitsL (a ++ b) + 1 = bl p + bitsL a + bitsL b; omega
theorem bl_lt (p : Int × Int) : p.1.natAbs < 2 ^ (bl p - 1) ∧ p.2.natAbs < 2 ^ (bl p - 1) := by
  have : p.1.natAbs + p.2.natAbs < 2 ^ (Nat.log2 (p.1.natAbs + p.2.natAbs) + 1) := Nat.lt_log2_self
  have e : bl p - 1 = Nat.log2 (p.1.natAbs + p.2.natAbs) + 1 := by unfold bl; omega
  rw [e]; omega
theorem bl_two (p : Int × Int) : 2 ≤ bl p := by unfold bl; omega
theorem bl_le {p : Int × Int} {k : Nat} (h1 : p.1.natAbs < 2 ^ k) (h2 : p.2.natAbs < 2 ^ k) : bl p ≤ k + 2 := by
  unfold bl
  by_cases z : p.1.natAbs + p.2.natAbs = 0
  · rw [z]; simp
  · have : Nat.log2 (p.1.natAbs + p.2.natAbs) < k + 1 := (Nat.log2_lt z).mpr (by rw [Nat.pow_succ]; omega)
    omega
theorem bitsL_le {l : List (Int × Int)} {k : Nat} (h : ∀ p ∈ l, bl p ≤ k) : bitsL l ≤ 1 + l.length * k := by
  induction l with
  | nil => show 1 ≤ _; omega
  | cons p r ih =>
    have h1 := ih fun q hq => h q (List.mem_cons_of_mem _ hq)
    have h2 := h p List.mem_cons_self
    show bl p + bitsL r ≤ 1 + (r.length + 1) * k
    rw [Nat.add_mul]; omega
theorem sum_small (l : List (Int × Int)) : ∀ (a : Int × Int) (b : Nat), a.1.natAbs < 2 ^ b → a.2.natAbs < 2 ^ b → (l.foldl sumStep a).1.natAbs < 2 ^ (b + bitsL l - 1) ∧ (l.foldl sumStep a).2.natAbs < 2 ^ (b + bitsL l - 1) := by
  induction l with
  | nil => intro a b h1 h2; exact ⟨h1, h2⟩
  | cons p r ih =>
    intro a b h1 h2
    obtain ⟨p1, p2⟩ := bl_lt p
    have t := bl_two p
    have m1 := Sx.mul_lt h1 p2
    have m2 := Sx.mul_lt p1 h2
    have m3 := Sx.mul_lt h2 p2
    have e : b + (bl p - 1) + 1 = b + bl p := by omega
    have e2 : (2 : Nat) ^ (b + bl p) = 2 * 2 ^ (b + (bl p - 1)) := by rw [← e, Nat.pow_succ]; omega
    have e3 : bl p - 1 + b = b + (bl p - 1) := by omega
    rw [e3] at m2
    have q := ih (sumStep a p) (b + bl p) (by
      rw [e2]
      show (a.1 * p.2 + p.1 * a.2).natAbs < _
      omega) (by
      rw [e2]
      show (a.2 * p.2).natAbs < _
      omega)
    have e4 : b + bl p + bitsL r - 1 = b + bitsL (p :: r) - 1 := by show _ = b + (bl p + bitsL r) - 1; omega
    rw [e4] at q
    exact q
theorem sum_lt (l : List (Int × Int)) : (l.foldl sumStep (0, 1)).1.natAbs < 2 ^ bitsL l ∧ (l.foldl sumStep (0, 1)).2.natAbs < 2 ^ bitsL l := by
  have := sum_small l (0, 1) 1 (by decide) (by decide)
  rwa [show 1 + bitsL l - 1 = bitsL l by omega] at this
theorem sum_toR (l : List (Int × Int)) (h : ∀ p ∈ l, 0 < p.2) : ∀ a : Int × Int, 0 < a.2 → 0 < (l.foldl sumStep a).2 ∧ toR (l.foldl sumStep a) = toR a + sumR (l.map toR) := by
  induction l with
  | nil => intro a ha; exact ⟨ha, by show toR a = toR a + 0; grind⟩
  | cons p r ih =>
    intro a ha
    have hp := h p List.mem_cons_self
    obtain ⟨q1, q2⟩ := ih (fun q hq => h q (List.mem_cons_of_mem _ hq)) (sumStep a p) (Int.mul_pos ha hp)
    refine ⟨q1, q2.trans ?_⟩
    show toR (sumStep a p) + sumR (r.map toR) = toR a + (toR p + sumR (r.map toR))
    have e : toR (sumStep a p) = toR a + toR p := by
      unfold toR sumStep
      show (((a.1 * p.2 + p.1 * a.2 : Int)) : Rat) / (((a.2 * p.2 : Int)) : Rat) = _
      rw [Rat.intCast_add, Rat.intCast_mul, Rat.intCast_mul, Rat.intCast_mul]
      have h1 := icast_ne ha
      have h2 := icast_ne hp
      generalize ((a.1 : Int) : Rat) = A at *
      generalize ((a.2 : Int) : Rat) = B at *
      generalize ((p.1 : Int) : Rat) = C at *
      generalize ((p.2 : Int) : Rat) = E at *
      grind
    rw [e]; grind
theorem sumF_R (b : Bool) {l : List (Int × Int)} (h : ∀ p ∈ l, 0 < p.2) : 0 < (sumF (b, l)).2 ∧ toR (sumF (b, l)) = sumR (l.map toR) := by
  obtain ⟨h1, h2⟩ := sum_toR l h (0, 1) (by decide)
  exact ⟨h1, h2.trans (by rw [show toR (0, 1) = 0 by decide +kernel]; grind)⟩
/-- fractions in lowest terms -/
theorem sumF_q (b : Bool) (l : List Rat) : 0 < (sumF (b, l.map qF)).2 ∧ toR (sumF (b, l.map qF)) = sumR l := by
  have h := sumF_R b (l := l.map qF) fun p hp => by obtain ⟨x, _, rfl⟩ := List.mem_map.mp hp; exact qF_pos x
  rw [List.map_map] at h
  rw [show (l.map (toR ∘ qF)) = l from (List.map_congr_left fun x _ => toR_q x).trans (List.map_id' l)] at h
  exact h
theorem sumP_q {b : Bool} {l : List Rat} {k : Nat} (h : ∀ x ∈ l, Sx.Sm k x) (hl : 1 + l.length * (k + 2) ≤ 4500) : sumP (b, l.map qF) := by
  refine Nat.le_trans (bitsL_le (k := k + 2) fun p hp => ?_) (by rw [List.length_map]; exact hl)
  obtain ⟨x, mx, rfl⟩ := List.mem_map.mp hp
  exact bl_le (h x mx).1 (h x mx).2
end TY
namespace TY
open PySem PySem.Spec L2 DL
def fracIsF (_ : Int × Int) : Bool := true
def fracIsP (p : Int × Int) : Prop := ∃ x : Rat, p = qF x
def apartF (_ : Web) (_ : List Int) : Bool := true
structure apartP (w : Web) (k : List Int) : Prop where
  isw : IsWeb w
  n24 : w.1 ≤ 24
  kn : isK (turnedF w) w.1 k
  ne : k ≠ []
def coversF (_ : Web) (_ : List (List Int × (Int × Int))) : Bool := true
structure coversP (w : Web) (t : List (List Int × (Int × Int))) : Prop where
  isw : IsWeb w
  n24 : w.1 ≤ 24
  ex : ∃ C : List (List Int × Rat), t = C.map (fun p => (p.1, qF p.2)) ∧ C.length ≤ 30 ∧ (∀ p ∈ C, isK (turnedF w) w.1 p.1 ∧ p.1 ≠ [] ∧ 0 < p.2 ∧ Sx.Sm 128 p.2) ∧ ∀ place : Int, 0 ≤ place → place < w.1 → 1 ≤ sumR ((C.filter fun p => inl place p.1).map (·.2))
def weighsF (_ : Web) (_ : List (Int × Int)) : Bool := true
structure weighsP (w : Web) (t : List (Int × Int)) : Prop where
  isw : IsWeb w
  n10 : w.1 ≤ 10
  ex : ∃ W : List Rat, t = W.map qF ∧ (W.length : Int) = w.1 ∧ (∀ y ∈ W, 0 ≤ y ∧ Sx.Sm 128 y) ∧ ∀ K, isK (turnedF w) w.1 K → sumR (K.map fun p => gi W p) ≤ 1
end TY
namespace TY
open PySem PySem.Spec L2 DL
theorem gi_list {α : Type} [Inhabited α] (l : List α) : (irange 0 (l.length : Int)).map (gi l) = l := by
  rw [Sx.irange_nat, List.map_map]
  refine List.ext_getElem (by simp) fun i h1 h2 => ?_
  rw [List.getElem_map, List.getElem_range]
  exact gi_nat h2
structure CovOk (w : Web) (C : List (List Int × Rat)) : Prop where
  cin : ∀ p ∈ C, isK (turnedF w) w.1 p.1 ∧ 0 ≤ p.2
  cov : ∀ place : Int, 0 ≤ place → place < w.1 → 1 ≤ sumR ((C.filter fun p => inl place p.1).map (·.2))
structure WgtOk (w : Web) (W : List Rat) : Prop where
  wlen : (W.length : Int) = w.1
  win : ∀ y ∈ W, 0 ≤ y
  wap : ∀ K, isK (turnedF w) w.1 K → sumR (K.map fun p => gi W p) ≤ 1
theorem weak_dual {w : Web} {C : List (List Int × Rat)} {W : List Rat} (A : CovOk w C) (B : WgtOk w W) : sumR W ≤ sumR (C.map (·.2)) := by
  have e0 : sumR W = sumR ((irange 0 w.1).map (gi W)) := by rw [← B.wlen, gi_list]
  have wn : ∀ p ∈ irange 0 w.1, 0 ≤ gi W p := fun p hp => by
    have := mem_irange.mp hp
    exact B.win _ (gi_mem this.1 (by rw [B.wlen]; exact this.2))
  have s1 : sumR ((irange 0 w.1).map (gi W)) ≤ sumR ((irange 0 w.1).map fun p => sumR (C.map fun c => if inl p c.1 then c.2 * gi W p else 0)) := sumR_le fun p hp => by
    have r := mem_irange.mp hp
    have c := A.cov p r.1 r.2
    have n := wn p hp
    rw [sumR_filter] at c
    have e : sumR (C.map fun c => if inl p c.1 then c.2 * gi W p else 0) = gi W p * sumR (C.map fun c => if inl p c.1 then c.2 else 0) := by
      rw [← sumR_mul]
      refine sumR_congr fun c _ => ?_
      split <;> grind
    rw [e]
    have := Rat.mul_nonneg n (show 0 ≤ sumR (C.map fun c => if inl p c.1 then c.2 else 0) - 1 by grind)
    grind
  rw [sumR_swap] at s1
  have s2 : sumR (C.map fun c => sumR ((irange 0 w.1).map fun p => if inl p c.1 then c.2 * gi W p else 0)) ≤ sumR (C.map (·.2)) := sumR_le fun c hc => by
    obtain ⟨k, s⟩ := A.cin c hc
    have a := B.wap c.1 k
    rw [sumR_up k.up k.rng fun p => gi W p] at a
    have e : sumR ((irange 0 w.1).map fun p => if inl p c.1 then c.2 * gi W p else 0) = c.2 * sumR ((irange 0 w.1).map fun p => if inl p c.1 then gi W p else 0) := by
      rw [← sumR_mul]
      refine sumR_congr fun p _ => ?_
      split <;> grind
    rw [e]
    have := Rat.mul_nonneg s (show 0 ≤ 1 - sumR ((irange 0 w.1).map fun p => if inl p c.1 then gi W p else 0) by grind)
    grind
  rw [e0]
  exact Rat.le_trans s1 s2
theorem ShOk.c {w : Web} {x : Rat} {C : List (List Int × Rat)} {W : List Rat} (A : ShOk w x C W) : CovOk w C := ⟨fun p hp => ⟨(A.cin p hp).1, by have := (A.cin p hp).2.2.1; grind⟩, A.cov⟩
theorem ShOk.w {w : Web} {x : Rat} {C : List (List Int × Rat)} {W : List Rat} (A : ShOk w x C W) : WgtOk w W := ⟨A.wlen, fun y hy => (A.win y hy).1, A.wap⟩
/-- the worth lies between weights and covers -/
theorem ShOk.up {w : Web} {x : Rat} {C C' : List (List Int × Rat)} {W : List Rat} (A : ShOk w x C W) (B : CovOk w C') : x ≤ sumR (C'.map (·.2)) := by
  have := weak_dual B A.w
  rwa [A.ww] at this
theorem sh_uniq {w : Web} {x x' : Rat} {C C' : List (List Int × Rat)} {W W' : List Rat} (A : ShOk w x C W) (B : ShOk w x' C' W') : x = x' := by
  have h1 := A.up B.c
  have h2 := B.up A.c
  rw [B.cw] at h1
  rw [A.cw] at h2
  grind
end TY
namespace TY
open PySem PySem.Spec L2 DL
structure Emb (u w : Web) (f : Int → Int) : Prop where
  rng : ∀ i, 0 ≤ i → i < u.1 → 0 ≤ f i ∧ f i < w.1
  inj : ∀ i j, 0 ≤ i → i < u.1 → 0 ≤ j → j < u.1 → f i = f j → i = j
  td : ∀ i j, 0 ≤ i → i < u.1 → 0 ≤ j → j < u.1 → tie w (f i) (f j) = tie u i j
theorem Emb.cl {u w : Web} {f : Int → Int} (E : Emb u w f) {K : List Int} (h : Cl u K) : Cl w (K.map f) := by
  refine ⟨map_nodup h.nd fun a ma b mb e => ?_, fun x m => ?_, fun x mx y my ne => ?_⟩
  · have ra := h.rng a ma; have rb := h.rng b mb
    exact E.inj a b (by omega) (by omega) (by omega) (by omega) e
  · obtain ⟨a, ma, rfl⟩ := List.mem_map.mp m
    have ra := h.rng a ma
    exact E.rng a (by omega) (by omega)
  · obtain ⟨a, ma, rfl⟩ := List.mem_map.mp mx
    obtain ⟨b, mb, rfl⟩ := List.mem_map.mp my
    have ra := h.rng a ma; have rb := h.rng b mb
    rw [E.td a b (by omega) (by omega) (by omega) (by omega)]
    exact h.td a ma b mb fun e => ne (by rw [e])
theorem Emb.keep {u w : Web} {f : Int → Int} (E : Emb u w f) {k l : List Int} (hk : isK u u.1 k) (hl : isK u u.1 l) (e : sortI (k.map f) = sortI (l.map f)) : k = l := by
  refine up_ext' hk.up hl.up fun x => ⟨fun m => ?_, fun m => ?_⟩
  · have : f x ∈ sortI (l.map f) := by rw [← e]; exact (sortI_perm _).mem_iff.mpr (List.mem_map.mpr ⟨x, m, rfl⟩)
    obtain ⟨y, my, ey⟩ := List.mem_map.mp ((sortI_perm _).mem_iff.mp this)
    have rx := hk.rng x m; have ry := hl.rng y my
    rwa [← E.inj y x (by omega) (by omega) (by omega) (by omega) ey]
  · have : f x ∈ sortI (k.map f) := by rw [e]; exact (sortI_perm _).mem_iff.mpr (List.mem_map.mpr ⟨x, m, rfl⟩)
    obtain ⟨y, my, ey⟩ := List.mem_map.mp ((sortI_perm _).mem_iff.mp this)
    have rx := hl.rng x m; have ry := hk.rng y my
    rwa [← E.inj y x (by omega) (by omega) (by omega) (by omega) ey]
/-- two webs that are one -/
structure Iso (u w : Web) (f g : Int → Int) : Prop where
  E : Emb u w f
  G : Emb w u g
  gf : ∀ i, 0 ≤ i → i < u.1 → g (f i) = i
  fg : ∀ j, 0 ≤ j → j < w.1 → f (g j) = j
theorem Iso.symm {u w : Web} {f g : Int → Int} (I : Iso u w f g) : Iso w u g f := ⟨I.G, I.E, I.fg, I.gf⟩
theorem Iso.of {u w : Web} {f g : Int → Int} (E : Emb u w f) (gf : ∀ i, 0 ≤ i → i < u.1 → g (f i) = i) (sur : ∀ j, 0 ≤ j → j < w.1 → ∃ i, (0 ≤ i ∧ i < u.1) ∧ f i = j) : Iso u w f g := by
  refine ⟨E, ⟨fun j j0 j1 => ?_, fun i j i0 i1 j0 j1 e => ?_, fun i j i0 i1 j0 j1 => ?_⟩, gf, fun j j0 j1 => ?_⟩
  · obtain ⟨i, hi, rfl⟩ := sur j j0 j1
    rw [gf i hi.1 hi.2]; exact hi
  · obtain ⟨a, ha, rfl⟩ := sur i i0 i1
    obtain ⟨b, hb, rfl⟩ := sur j j0 j1
    rw [gf a ha.1 ha.2, gf b hb.1 hb.2] at e; rw [e]
  · obtain ⟨a, ha, rfl⟩ := sur i i0 i1
    obtain ⟨b, hb, rfl⟩ := sur j j0 j1
    rw [gf a ha.1 ha.2, gf b hb.1 hb.2, E.td a b ha.1 ha.2 hb.1 hb.2]
  · obtain ⟨i, hi, rfl⟩ := sur j j0 j1
    rw [gf i hi.1 hi.2]
end TY
namespace TY
open PySem PySem.Spec L2 DL
def mv (w : Web) : Int := (mostF w).1
end TY
namespace TY
open PySem PySem.Spec L2 DL
theorem Cl.less {w : Web} {K : List Int} (h : Cl w K) (p : Int) : Cl w (K.filter fun a => !decide (a = p)) := h.sub (h.nd.filter _) fun a ma => (List.mem_filter.mp ma).1
end TY
namespace TY
open PySem PySem.Spec L2 DL
def freeL (n : Int) (taken : List (Option Int)) : List Int := ((irange 0 n).filter fun hue => !inl (some hue) taken).map fun hue => hue
def hueStep (w : Web) (h : List (Option Int)) (p : Int) : List (Option Int) := h.set p.toNat (some (gi (freeL w.1 ((nearL w p).map fun o => gi h o)) 0))
def hueO (w : Web) (o : List Int) : List (Option Int) := o.foldl (hueStep w) (List.replicate w.1.toNat none)
theorem mem_free {n : Int} {t : List (Option Int)} {x : Int} : x ∈ freeL n t ↔ (0 ≤ x ∧ x < n) ∧ some x ∉ t := by
  unfold freeL
  rw [List.map_id', List.mem_filter, mem_irange]
  simp only [Bool.not_eq_true', Bool.eq_false_iff, ne_eq, inl_iff]
theorem free_some {n : Int} {t : List (Option Int)} (h : (t.length : Int) < n) : InR (freeL n t) 0 := by
  have : freeL n t ≠ [] := fun e => by
    have := nodup_sub_len ((irange 0 n).map some) t (map_nodup (irange_nodup _ _) fun a _ b _ e => Option.some.inj e) fun x mx => by
      obtain ⟨a, ma, rfl⟩ := List.mem_map.mp mx
      refine Classical.byContradiction fun q => ?_
      have : a ∈ freeL n t := mem_free.mpr ⟨mem_irange.mp ma, q⟩
      rw [e] at this; cases this
    rw [List.length_map, irange_length] at this; omega
  have := List.length_pos_iff.mpr this
  constructor <;> omega
theorem near_few {w : Web} (hw : IsWeb w) {p : Int} (p0 : 0 ≤ p) (p1 : p < w.1) : ((nearL w p).length : Int) < w.1 := by
  have := nodup_sub_len (p :: nearL w p) (irange 0 w.1) (List.nodup_cons.mpr ⟨fun m => (by have := (mem_nearL.mp m).2; rw [tie_self hw] at this; cases this), up_nodup (nearL_up w p)⟩) fun x mx => by
    rcases List.mem_cons.mp mx with rfl | mx
    · exact mem_irange.mpr ⟨p0, p1⟩
    · exact mem_irange.mpr (mem_nearL.mp mx).1
  rw [irange_length, List.length_cons] at this; omega
theorem hueStep_len (w : Web) (h : List (Option Int)) (p : Int) : (hueStep w h p).length = h.length := by unfold hueStep; rw [List.length_set]
theorem fold_len (w : Web) : ∀ (o : List Int) (h : List (Option Int)), (o.foldl (hueStep w) h).length = h.length
  | [], _ => rfl
  | p :: r, h => by rw [List.foldl_cons, fold_len w r, hueStep_len]
theorem hueO_len (w : Web) (o : List Int) : (hueO w o).length = w.1.toNat := by unfold hueO; rw [fold_len, List.length_replicate]
theorem hueO_snoc (w : Web) (o : List Int) (p : Int) : hueO w (o ++ [p]) = hueStep w (hueO w o) p := by unfold hueO; rw [List.foldl_append]; rfl
/-- whose turn has come has a hue, the others none -/
theorem hueO_some {w : Web} {o : List Int} (hr : ∀ p ∈ o, 0 ≤ p ∧ p < w.1) : ∀ q, 0 ≤ q → q < w.1 → ((gi (hueO w o) q).isSome = true ↔ q ∈ o) := by
  have key : ∀ n : Nat, ∀ o : List Int, o.length = n → (∀ p ∈ o, 0 ≤ p ∧ p < w.1) → ∀ q, 0 ≤ q → q < w.1 → ((gi (hueO w o) q).isSome = true ↔ q ∈ o) := fun n => by
    induction n with
    | zero =>
      intro o e _ q q0 q1
      rw [List.length_eq_zero_iff.mp e]
      have : gi (hueO w []) q = none := List.eq_of_mem_replicate (gi_mem (l := List.replicate w.1.toNat (none : Option Int)) q0 (by rw [List.length_replicate]; omega))
      rw [this]; simp
    | succ n ih =>
      intro o e hr q q0 q1
      rcases List.eq_nil_or_concat o with rfl | ⟨l, p, rfl⟩
      · simp at e
      · rw [List.concat_eq_append] at e hr ⊢
        have hp := hr p (by simp)
        have il := ih l (by simpa using e) (fun x m => hr x (by simp [m])) q q0 q1
        rw [hueO_snoc]
        unfold hueStep
        have ln := hueO_len w l
        rw [gi_set hp.1 (by omega) q0 (by omega)]
        by_cases e2 : q = p
        · rw [if_pos e2]; simp [e2]
        · rw [if_neg e2, il]; simp [e2]
  exact key _ o rfl hr
end TY
namespace TY
open PySem PySem.Spec L2 DL
theorem maxDef_snoc (p : List Int) {x : Int} (hx : -1 ≤ x) : maxDef (-1) (p ++ [x]) = max (maxDef (-1) p) x := by
  match p with
  | [] => show x = max (-1) x; omega
  | n :: r => show (r ++ [x]).foldl max n = max (r.foldl max n) x; rw [List.foldl_append]; rfl
theorem mem_irangeD {i j x : Int} : x ∈ irangeD i j ↔ j < x ∧ x ≤ i := by
  unfold irangeD
  rw [List.mem_map]
  constructor
  · rintro ⟨k, mk, rfl⟩
    have := List.mem_range.mp mk
    omega
  · rintro ⟨h1, h2⟩
    exact ⟨(i - x).toNat, List.mem_range.mpr (by omega), by omega⟩
theorem irangeD_len (i j : Int) : (irangeD i j).length = (i - j).toNat := by unfold irangeD; simp
def tiesB (w : Web) (p : Int) : List Int := ((nearL w p).filter fun o => decide (o < p)).map fun o => o
theorem mem_tiesB {w : Web} {p o : Int} : o ∈ tiesB w p ↔ ((0 ≤ o ∧ o < w.1) ∧ tie w p o = true) ∧ o < p := by
  unfold tiesB; rw [List.map_id', List.mem_filter, mem_nearL, decide_eq_true_eq]
def okH (w : Web) (p : List Int) (hue : Int) : Bool := ((tiesB w p.length).map fun o => !decide (gi p o = hue)).all id
theorem okH_iff {w : Web} {p : List Int} {x : Int} : okH w p x = true ↔ ∀ o ∈ tiesB w p.length, gi p o ≠ x := by
  unfold okH
  rw [List.all_map, List.all_eq_true]
  exact forall_congr' fun o => by simp
def freshL (p : List Int) : Int := maxDef (-1) p + 1
def huesL (w : Web) (many : Int) (p : List Int) : List Int := irangeD (min many (freshL p + 1) - 1) (-1)
structure PartH (w : Web) (many : Int) (p : List Int) : Prop where
  len : (p.length : Int) ≤ w.1
  hue : ∀ x ∈ p, 0 ≤ x ∧ x < many
  can : maxDef (-1) p < p.length
  pr : ∀ a b, 0 ≤ a → a < b → b < (p.length : Int) → tie w a b = true → gi p a ≠ gi p b
theorem PartH.kid {w : Web} {many : Int} {p : List Int} (h : PartH w many p) (hl : (p.length : Int) ≠ w.1) {x : Int} (x0 : 0 ≤ x) (x1 : x < many) (x2 : x ≤ freshL p) (ok : okH w p x = true) : PartH w many (p ++ [x]) := by
  have hl := h.len
  have hc := h.can
  unfold freshL at x2
  refine ⟨by rw [List.length_append]; simp; omega, fun y my => ?_, ?_, fun a b a0 ab bl t => ?_⟩
  · rcases List.mem_append.mp my with my | my
    · exact h.hue y my
    · rw [List.mem_singleton.mp my]; exact ⟨x0, x1⟩
  · rw [maxDef_snoc p (by omega), List.length_append]; simp; omega
  · rw [List.length_append] at bl
    simp at bl
    by_cases e : b = (p.length : Int)
    · subst e
      rw [gi_append_left a0 ab, gi_append_right (Int.le_refl _) (by simp; omega)]
      rw [show (p.length : Int) - (p.length : Int) = ((0 : Nat) : Int) by omega, gi_nat (by simp)]
      exact okH_iff.mp ok a (mem_tiesB.mpr ⟨⟨⟨a0, by omega⟩, by rw [tie_comm]; exact t⟩, ab⟩)
    · rw [gi_append_left a0 (by omega), gi_append_left (by omega) (by omega)]
      exact h.pr a b a0 ab (by omega) t
theorem PartH.nil (w : Web) (many : Int) (h : 0 ≤ w.1) : PartH w many [] := ⟨h, fun _ m => (nomatch m), (by decide), fun a b a0 ab bl => by simp at bl; omega⟩
theorem mem_huesL {w : Web} {many : Int} {p : List Int} {x : Int} : x ∈ huesL w many p ↔ 0 ≤ x ∧ x < many ∧ x ≤ freshL p := by
  unfold huesL; rw [mem_irangeD]; omega
theorem kids_len {w : Web} {many : Int} {p : List Int} (h : PartH w many p) (hl : (p.length : Int) ≠ w.1) : (huesL w many p).length ≤ w.1.toNat := by
  have := h.len; have := h.can
  unfold huesL freshL
  rw [irangeD_len]
  omega
structure StkI (w : Web) (many : Int) (s : List (List Int)) : Prop where
  ok : ∀ p ∈ s, PartH w many p
  ix : ∀ (i : Nat) (h : i < s.length), i ≤ w.1.toNat * (s[i]).length
theorem StkI.len {w : Web} {many : Int} {s : List (List Int)} (I : StkI w many s) : s.length ≤ w.1.toNat * w.1.toNat + 1 := by
  by_cases e : s.length = 0
  · omega
  · have h1 := I.ix (s.length - 1) (by omega)
    have h2 := (I.ok _ (List.getElem_mem (by omega : s.length - 1 < s.length))).len
    have h3 : w.1.toNat * (s[s.length - 1]'(by omega)).length ≤ w.1.toNat * w.1.toNat := Nat.mul_le_mul_left _ (by omega)
    omega
/-- the kids up to some hues -/
theorem StkI.kids {w : Web} {many : Int} {t : List (List Int)} {p : List Int} (I : StkI w many (t ++ [p])) (hl : (p.length : Int) ≠ w.1) {l : List Int} (sl : l.Sublist (huesL w many p)) : StkI w many (t ++ (l.filter (okH w p)).map fun hue => p ++ [hue]) := by
  have hp := I.ok p (by simp)
  have kl := Nat.le_trans sl.length_le (kids_len hp hl)
  have it := I.ix t.length (by simp)
  simp at it
  refine ⟨fun q mq => ?_, fun i hi => ?_⟩
  · rcases List.mem_append.mp mq with mq | mq
    · exact I.ok q (by simp [mq])
    · obtain ⟨x, mx, rfl⟩ := List.mem_map.mp mq
      obtain ⟨mx, ok⟩ := List.mem_filter.mp mx
      have hx := mem_huesL.mp (sl.subset mx)
      exact hp.kid hl hx.1 hx.2.1 hx.2.2 ok
  · by_cases c : i < t.length
    · rw [List.getElem_append_left c]
      have := I.ix i (by simp; omega)
      rwa [List.getElem_append_left c] at this
    · rw [List.getElem_append_right (by omega), List.getElem_map, List.length_append]
      rw [List.length_append, List.length_map] at hi
      have := List.length_filter_le (okH w p) l
      show i ≤ w.1.toNat * (p.length + 1)
      rw [Nat.mul_add]; omega
theorem StkI.start {w : Web} (many : Int) (h : 0 ≤ w.1) : StkI w many [[]] := ⟨fun p mp => by rw [List.mem_singleton.mp mp]; exact PartH.nil w many h, fun i hi => by simp at hi; subst hi; simp⟩
structure AnewH (g H : List Int) : Prop where
  len : H.length = g.length
  same : ∀ a b, 0 ≤ a → a < (g.length : Int) → 0 ≤ b → b < (g.length : Int) → (gi g a = gi g b ↔ gi H a = gi H b)
  nn : ∀ x ∈ H, 0 ≤ x
  can : ∀ i : Nat, i < H.length → gi H (i : Int) ≤ maxDef (-1) (H.take i) + 1
  cnt : maxDef (-1) H + 1 = ((ddI g).length : Int)
theorem AnewH.snoc {g H : List Int} (A : AnewH g H) {x y : Int} (y0 : 0 ≤ y) (y1 : y ≤ maxDef (-1) H + 1) (hs : ∀ a, 0 ≤ a → a < (g.length : Int) → (gi g a = x ↔ gi H a = y)) (hc : max (maxDef (-1) H) y + 1 = ((ddI (g ++ [x])).length : Int)) : AnewH (g ++ [x]) (H ++ [y]) := by
  have hl := A.len
  have gl : ∀ {l : List Int} {z : Int}, gi (l ++ [z]) (l.length : Int) = z := fun {l z} => by
    rw [gi_append_right (Int.le_refl _) (by simp; omega), show (l.length : Int) - (l.length : Int) = ((0 : Nat) : Int) by omega, gi_nat (by simp)]; rfl
  refine ⟨by rw [List.length_append, List.length_append, hl]; rfl, fun a b a0 a1 b0 b1 => ?_, fun z mz => ?_, fun i hi => ?_, ?_⟩
  · rw [List.length_append] at a1 b1
    simp at a1 b1
    by_cases ea : a = (g.length : Int) <;> by_cases eb : b = (g.length : Int)
    · subst ea; subst eb; simp
    · subst ea
      rw [gl, gi_append_left b0 (by omega), show (g.length : Int) = (H.length : Int) by omega, gl, gi_append_left b0 (by omega)]
      have := hs b b0 (by omega)
      exact ⟨fun e => (this.mp e.symm).symm, fun e => (this.mpr e.symm).symm⟩
    · subst eb
      rw [gl, gi_append_left a0 (by omega), show (g.length : Int) = (H.length : Int) by omega, gl, gi_append_left a0 (by omega)]
      exact hs a a0 (by omega)
    · rw [gi_append_left a0 (by omega), gi_append_left b0 (by omega), gi_append_left a0 (by omega), gi_append_left b0 (by omega)]
      exact A.same a b a0 (by omega) b0 (by omega)
  · rcases List.mem_append.mp mz with mz | mz
    · exact A.nn z mz
    · rw [List.mem_singleton.mp mz]; exact y0
  · rw [List.length_append] at hi
    simp at hi
    by_cases e : i = H.length
    · subst e
      rw [gl, List.take_left]; exact y1
    · rw [gi_append_left (by omega) (by omega), List.take_append_of_le_length (by omega)]
      exact A.can i (by omega)
  · rw [maxDef_snoc H (by omega)]; exact hc
/-- right hueings by any numbers -/
structure RightH (w : Web) (g : List Int) : Prop where
  len : (g.length : Int) = w.1
  pr : ∀ t ∈ w.2, gi g t.1 ≠ gi g t.2
theorem RightH.tied {w : Web} {g : List Int} (h : RightH w g) {a b : Int} (t : tie w a b = true) : gi g a ≠ gi g b := by
  unfold tie at t
  have := h.pr _ (inl_iff.mp t)
  rcases Int.le_total a b with q | q
  · rwa [Int.min_eq_left q, Int.max_eq_right q] at this
  · rw [Int.min_eq_right q, Int.max_eq_left q] at this
    exact this.symm
structure FewO (w : Web) (r : Int × List Int) : Prop where
  hue : isHue w r.2
  lt : ∀ x ∈ r.2, x < r.1
  cnt : ((ddI r.2).length : Int) = r.1
  top : ∀ g, RightH w g → r.1 ≤ ((ddI g).length : Int)
  le : 0 ≤ r.1 ∧ r.1 ≤ w.1
theorem isHue.right {w : Web} {g : List Int} (h : isHue w g) : RightH w g := ⟨h.len, h.pr⟩
theorem FewO.uniq {w : Web} {r s : Int × List Int} (h : FewO w r) (h' : FewO w s) : r.1 = s.1 := by
  have h1 := h.top _ h'.hue.right; have h2 := h'.top _ h.hue.right
  have := h.cnt; have := h'.cnt; omega
end TY
namespace TY
open PySem PySem.Spec L2 DL
end TY
namespace TY
open PySem PySem.Spec L2 DL
theorem free_head {n : Int} {t : List (Option Int)} (h : InR (freeL n t) 0) : (0 ≤ gi (freeL n t) 0 ∧ gi (freeL n t) 0 < n) ∧ some (gi (freeL n t) 0) ∉ t ∧ ∀ x, 0 ≤ x → x < n → some x ∉ t → gi (freeL n t) 0 ≤ x := by
  have hp : 0 < (freeL n t).length := by omega
  have hm := mem_free.mp (gi_mem (l := freeL n t) (Int.le_refl 0) (by omega))
  refine ⟨hm.1, hm.2, fun x x0 x1 nx => ?_⟩
  have up : (freeL n t).Pairwise (· < ·) := by
    unfold freeL
    rw [List.map_id']
    exact (irange_sorted 0 n).sublist List.filter_sublist
  obtain ⟨i, i0, i1, e⟩ := mem_gi (mem_free.mpr ⟨⟨x0, x1⟩, nx⟩)
  by_cases e0 : i = 0
  · subst e0; omega
  · have := gi_up up (Int.le_refl 0) (show (0 : Int) < i by omega) i1
    omega
structure AlI (w : Web) (H : List (Option Int)) : Prop where
  len : (H.length : Int) = w.1
  lt : ∀ q x : Int, 0 ≤ q → q < w.1 → gi H q = some x → 0 ≤ x ∧ x < w.1
  pr : ∀ p q x : Int, 0 ≤ p → p < w.1 → 0 ≤ q → q < w.1 → tie w p q = true → gi H p = some x → gi H q ≠ some x
theorem AlI.start {w : Web} (hw : IsWeb w) : AlI w (hueO w []) := by
  have h0 := hw.n0
  have g : ∀ q, 0 ≤ q → q < w.1 → gi (hueO w []) q = none := fun q q0 q1 =>
    List.eq_of_mem_replicate (gi_mem (l := List.replicate w.1.toNat (none : Option Int)) q0 (by rw [List.length_replicate]; omega))
  exact ⟨by rw [hueO_len]; omega, (fun q x q0 q1 e => by rw [g q q0 q1] at e; cases e), fun p q x p0 p1 _ _ _ e => by rw [g p p0 p1] at e; cases e⟩
theorem AlI.step {w : Web} (hw : IsWeb w) {o : List Int} (I : AlI w (hueO w o)) {p : Int} (p0 : 0 ≤ p) (p1 : p < w.1) : AlI w (hueO w (o ++ [p])) := by
  rw [hueO_snoc]
  have hl := I.len
  have fs := free_some (n := w.1) (t := (nearL w p).map fun o' => gi (hueO w o) o') (by rw [List.length_map]; exact near_few hw p0 p1)
  obtain ⟨⟨x0, x1⟩, x2, _⟩ := free_head fs
  have g : ∀ q, 0 ≤ q → q < w.1 → gi (hueStep w (hueO w o) p) q = if q = p then some (gi (freeL w.1 ((nearL w p).map fun o' => gi (hueO w o) o')) 0) else gi (hueO w o) q := fun q q0 q1 => gi_set p0 (by omega) q0 (by omega)
  generalize gi (freeL w.1 ((nearL w p).map fun o' => gi (hueO w o) o')) 0 = v at *
  refine ⟨by rw [hueStep_len]; exact hl, fun q x q0 q1 e => ?_, fun a b x a0 a1 b0 b1 t e => ?_⟩
  · rw [g q q0 q1] at e
    by_cases c : q = p
    · rw [if_pos c] at e; rw [← Option.some.inj e]; exact ⟨x0, x1⟩
    · rw [if_neg c] at e; exact I.lt q x q0 q1 e
  · rw [g a a0 a1] at e
    rw [g b b0 b1]
    have ne : a ≠ b := (tie_rng hw t).2.2.2.2
    by_cases ca : a = p
    · rw [if_pos ca] at e
      rw [if_neg (fun cb => ne (ca.trans cb.symm))]
      intro z
      refine x2 (List.mem_map.mpr ⟨b, mem_nearL.mpr ⟨⟨b0, b1⟩, ca ▸ t⟩, ?_⟩)
      rw [z, ← e]
    · rw [if_neg ca] at e
      by_cases cb : b = p
      · rw [if_pos cb]
        intro z
        refine x2 (List.mem_map.mpr ⟨a, mem_nearL.mpr ⟨⟨a0, a1⟩, by rw [tie_comm]; exact cb ▸ t⟩, ?_⟩)
        rw [e, ← z]
      · rw [if_neg cb]
        exact I.pr a b x a0 a1 b0 b1 t e
end TY
namespace TY
open PySem PySem.Spec L2 DL
end TY
namespace TY
open PySem PySem.Spec L2 DL
end TY
namespace TY
open PySem PySem.Spec L2 DL
end TY
namespace TY
open PySem PySem.Spec L2 DL
end TY
namespace TY
open PySem PySem.Spec L2 DL
def lap (P : List (Int × Int)) (a b : Int) : Bool := decide ((gi P a).1 < (gi P b).2) && decide ((gi P b).1 < (gi P a).2)
def pieceW (P : List (Int × Int)) : Web := mkW P.length (lap P)
theorem pieceW_web (P : List (Int × Int)) : IsWeb (pieceW P) := mkW_web (by omega) _
theorem lap_comm (P : List (Int × Int)) (a b : Int) : lap P a b = lap P b a := by unfold lap; rw [Bool.and_comm]
theorem lap_tie {P : List (Int × Int)} {a b : Int} (ha : 0 ≤ a) (hb : 0 ≤ b) (ha' : a < P.length) (hb' : b < P.length) (h : a ≠ b) : tie (pieceW P) a b = lap P a b := tie_mk' (lap_comm P) ha hb ha' hb' h
def holdF (P : List (Int × Int)) (x : Int) : List Int := ((ienum P).filter fun p => decide (p.2.1 ≤ x) && decide (x < p.2.2)).map fun p => p.1
theorem mem_holdF {P : List (Int × Int)} {x k : Int} : k ∈ holdF P x ↔ (0 ≤ k ∧ k < P.length) ∧ (gi P k).1 ≤ x ∧ x < (gi P k).2 := by
  unfold holdF
  rw [List.mem_map]
  constructor
  · rintro ⟨p, hp, rfl⟩
    obtain ⟨m, c⟩ := List.mem_filter.mp hp
    obtain ⟨m1, m2, m3⟩ := mem_ienum.mp m
    simp only [Bool.and_eq_true, decide_eq_true_eq] at c
    rw [m3]; exact ⟨⟨m1, m2⟩, c⟩
  · rintro ⟨h1, h2⟩
    refine ⟨(k, gi P k), List.mem_filter.mpr ⟨mem_ienum.mpr ⟨h1.1, h1.2, rfl⟩, ?_⟩, rfl⟩
    simp only [Bool.and_eq_true, decide_eq_true_eq]; exact h2
def betterF (P : List (Int × Int)) (best : Int × List Int) (p : Int × Int) : Int × List Int := if decide ((best.2.length : Int) < ((holdF P p.1).length : Int)) = true then (p.1, holdF P p.1) else best
/-- the first free hue -/
theorem mex_le {n : Int} {t : List (Option Int)} (h : InR (freeL n t) 0) : 0 ≤ gi (freeL n t) 0 ∧ gi (freeL n t) 0 ≤ (t.filter Option.isSome).length ∧ some (gi (freeL n t) 0) ∉ t := by
  have hp : 0 < (freeL n t).length := by omega
  have hm := mem_free.mp (gi_mem (l := freeL n t) (Int.le_refl 0) (by omega))
  have up : (freeL n t).Pairwise (· < ·) := by
    unfold freeL
    rw [List.map_id']
    exact (irange_sorted 0 n).sublist List.filter_sublist
  refine ⟨hm.1.1, ?_, hm.2⟩
  have := nodup_sub_len ((irange 0 (gi (freeL n t) 0)).map some) (t.filter Option.isSome) (map_nodup (irange_nodup _ _) fun a _ b _ e => Option.some.inj e) fun x mx => by
    obtain ⟨a, ma, rfl⟩ := List.mem_map.mp mx
    have ma := mem_irange.mp ma
    refine List.mem_filter.mpr ⟨Classical.byContradiction fun q => ?_, rfl⟩
    have mf : a ∈ freeL n t := mem_free.mpr ⟨⟨ma.1, by omega⟩, q⟩
    obtain ⟨i, i0, i1, e⟩ := mem_gi mf
    by_cases e0 : i = 0
    · subst e0; omega
    · have := gi_up up (Int.le_refl 0) (show (0 : Int) < i by omega) i1
      omega
  rw [List.length_map, irange_length] at this
  omega
/-- hues so far: few, and proper -/
structure ColI (P : List (Int × Int)) (m : Int) (H : List (Option Int)) : Prop where
  len : (H.length : Int) = P.length
  lt : ∀ (q x : Int), 0 ≤ q → q < P.length → gi H q = some x → 0 ≤ x ∧ x < m
  pr : ∀ (p q x : Int), 0 ≤ p → p < P.length → 0 ≤ q → q < P.length → tie (pieceW P) p q = true → gi H p = some x → gi H q ≠ some x
theorem ColI.start (P : List (Int × Int)) (m : Int) : ColI P m (hueO (pieceW P) []) := by
  have g : ∀ q, 0 ≤ q → q < (P.length : Int) → gi (hueO (pieceW P) []) q = none := fun q q0 q1 =>
    List.eq_of_mem_replicate (gi_mem (l := List.replicate (pieceW P).1.toNat (none : Option Int)) q0 (by rw [List.length_replicate]; show q < (((P.length : Int).toNat : Nat) : Int); omega))
  refine ⟨by rw [hueO_len]; show (((P.length : Int).toNat : Nat) : Int) = _; omega, fun q x q0 q1 e => ?_, fun p q x p0 p1 _ _ _ e => ?_⟩
  · rw [g q q0 q1] at e; cases e
  · rw [g p p0 p1] at e; cases e
theorem ColI.step {P : List (Int × Int)} {m : Int} {o : List Int} (I : ColI P m (hueO (pieceW P) o)) (ho : ∀ q ∈ o, 0 ≤ q ∧ q < (P.length : Int)) {p : Int} (p0 : 0 ≤ p) (p1 : p < P.length)
    (hs : ∀ q ∈ o, (gi P q).1 ≤ (gi P p).1) (hv : (gi P p).1 < (gi P p).2) (hm : ((holdF P (gi P p).1).length : Int) ≤ m) : ColI P m (hueO (pieceW P) (o ++ [p])) := by
  have hw := pieceW_web P
  rw [hueO_snoc]
  have hl := I.len
  have fs := free_some (n := (pieceW P).1) (t := (nearL (pieceW P) p).map fun o' => gi (hueO (pieceW P) o) o') (by rw [List.length_map]; exact near_few hw p0 p1)
  obtain ⟨x0, x1, x2⟩ := mex_le fs
  have g : ∀ q, 0 ≤ q → q < (P.length : Int) → gi (hueStep (pieceW P) (hueO (pieceW P) o) p) q = if q = p then some (gi (freeL (pieceW P).1 ((nearL (pieceW P) p).map fun o' => gi (hueO (pieceW P) o) o')) 0) else gi (hueO (pieceW P) o) q := fun q q0 q1 => gi_set p0 (by omega) q0 (by omega)
  have few : ((((nearL (pieceW P) p).map fun o' => gi (hueO (pieceW P) o) o').filter Option.isSome).length : Int) + 1 ≤ m := by
    rw [List.filter_map, List.length_map]
    have := nodup_sub_len (p :: (nearL (pieceW P) p).filter (Option.isSome ∘ fun o' => gi (hueO (pieceW P) o) o')) (holdF P (gi P p).1)
      (List.nodup_cons.mpr ⟨fun mm => (by have := (mem_nearL.mp (List.mem_filter.mp mm).1).2; rw [tie_self hw] at this; cases this), (up_nodup (nearL_up _ p)).sublist List.filter_sublist⟩) fun q mq => by
      rcases List.mem_cons.mp mq with rfl | mq
      · exact mem_holdF.mpr ⟨⟨p0, p1⟩, by omega⟩
      · obtain ⟨m1, m2⟩ := List.mem_filter.mp mq
        obtain ⟨⟨q0, q1⟩, t⟩ := mem_nearL.mp m1
        have qo := (hueO_some (w := pieceW P) ho q q0 q1).mp m2
        have ne := (tie_rng hw t).2.2.2.2
        have q1 : q < (P.length : Int) := q1
        rw [lap_tie p0 q0 p1 q1 ne] at t
        unfold lap at t
        simp only [Bool.and_eq_true, decide_eq_true_eq] at t
        exact mem_holdF.mpr ⟨⟨q0, q1⟩, hs q qo, t.1⟩
    rw [List.length_cons] at this
    omega
  refine ⟨by rw [hueStep_len]; exact hl, fun q x q0 q1 e => ?_, fun a b x a0 a1 b0 b1 t e => ?_⟩
  · rw [g q q0 q1] at e
    by_cases e2 : q = p
    · rw [if_pos e2] at e; cases e; omega
    · rw [if_neg e2] at e; exact I.lt q x q0 q1 e
  · have nt : ∀ q, tie (pieceW P) p q = true → 0 ≤ q → q < (P.length : Int) → gi (hueO (pieceW P) o) q ≠ some (gi (freeL (pieceW P).1 ((nearL (pieceW P) p).map fun o' => gi (hueO (pieceW P) o) o')) 0) := fun q tq q0 q1 eq =>
      x2 (List.mem_map.mpr ⟨q, mem_nearL.mpr ⟨⟨q0, q1⟩, tq⟩, eq⟩)
    have nab := (tie_rng hw t).2.2.2.2
    rw [g a a0 a1] at e
    rw [g b b0 b1]
    by_cases ea : a = p
    · rw [if_pos ea] at e
      rw [if_neg (fun z => nab (ea.trans z.symm))]
      cases e
      rw [ea] at t
      exact nt b t b0 b1
    · rw [if_neg ea] at e
      by_cases eb : b = p
      · rw [if_pos eb]
        intro z
        rw [eb, tie_comm] at t
        exact nt a t a0 a1 (e.trans z.symm)
      · rw [if_neg eb]
        exact I.pr a b x a0 a1 b0 b1 t e
end TY
namespace TY
open PySem PySem.Spec L2 DL
/-- what is best so far -/
structure BestI (P pre : List (Int × Int)) (b : Int × List Int) : Prop where
  own : pre = [] ∧ b = (0, []) ∨ pre ≠ [] ∧ b.2 = holdF P b.1 ∧ ∃ p ∈ pre, b.1 = p.1
  top : ∀ p ∈ pre, ((holdF P p.1).length : Int) ≤ b.2.length
theorem BestI.step {P pre : List (Int × Int)} {b : Int × List Int} {p : Int × Int} (I : BestI P pre b) (hp : 0 < (holdF P p.1).length) : BestI P (pre ++ [p]) (betterF P b p) := by
  unfold betterF
  by_cases h : ((b.2.length : Int) < ((holdF P p.1).length : Int))
  · rw [if_pos (by simpa using h)]
    exact ⟨.inr ⟨by simp, rfl, p, by simp, rfl⟩, fun q mq => by
      rcases List.mem_append.mp mq with mq | mq
      · have := I.top q mq; show _ ≤ ((holdF P p.1).length : Int); omega
      · rw [List.mem_singleton.mp mq]; exact Int.le_refl _⟩
  · rw [if_neg (by simpa using h)]
    refine ⟨?_, fun q mq => ?_⟩
    · rcases I.own with ⟨e, e2⟩ | ⟨n, e, r, mr, er⟩
      · rw [e2] at h; exact absurd (by simpa using hp) h
      · exact .inr ⟨by simp, e, r, by simp [mr], er⟩
    · rcases List.mem_append.mp mq with mq | mq
      · exact I.top q mq
      · rw [List.mem_singleton.mp mq]; omega
end TY
namespace TY
open PySem PySem.Spec L2 DL
end TY
namespace TY
open PySem PySem.Spec L2 DL
def topS (i : Nat) : Stmt := PySem.Challenge.pw_tiefold_k26_shares_told.main.body.getD i (.Pass ⟨0, 0, 0, 0⟩)
section
variable {P : Program} {w : World} {K : PySem.W.Frag} {mg : Str → Option Value} {base : Heap}
def F_law : FS := F_true 63
abbrev s_all_near : Stmt := topS 1
theorem sc_all_near : FnScope ["web", "found", "a", "b", "place"] ["web"] (C8.fnScope s_all_near) := C8.fnScope_by (by decide +kernel)
def w_all_near (web : Int × (List (Int × Int))) (Q : (List (List (Int × Bool))) → Prop) : Prop :=
  (-(2 ^ 62) ≤ web.1 ∧ web.1 ≤ 1000) ∧ bnd ((List.replicate (web.1).toNat ([] : List (Int × Bool)))) fun found =>
  wFor1 (web.2) found (fun found1 (p : Int × Int) nx =>
  (0 ≤ p.1 ∧ p.1 < found1.length) ∧ (((gi found1 p.1).map (·.1)).Nodup ∧ (gi found1 p.1).length < 10000000) ∧ bnd (found1.set (p.1).toNat (putM (gi found1 p.1) p.2 true)) fun found2 =>
  (0 ≤ p.2 ∧ p.2 < found2.length) ∧ (((gi found2 p.2).map (·.1)).Nodup ∧ (gi found2 p.2).length < 10000000) ∧ bnd (found2.set (p.2).toNat (putM (gi found2 p.2) p.1 true)) fun found3 =>
  nx found3)
  (fun (found1 : List (List (Int × Bool))) => Q found1)
theorem spec_all_near {w : Web} {Q : List (List (Int × Bool)) → Prop} (h : IsWeb w) (hn : w.1 ≤ 24) (q : ∀ r, (r.length : Int) = w.1 → (∀ a b, 0 ≤ a → a < w.1 → hk (gi r a) b = tie w a b) → (∀ a, 0 ≤ a → a < w.1 → ((gi r a).map (·.1)).Nodup) → Q r) : w_all_near w Q := by
  unfold w_all_near
  have h0 := h.n0
  have hl := web_len24 h hn
  refine ⟨by omega, ?_⟩
  rintro _ rfl
  refine wFor1_inv (fun pre r => NearI w.1 (fun a b => (a, b) ∈ pre ∨ (b, a) ∈ pre) (2 * pre.length) r) ?_ ?_ ?_
  · have := NearI.nil h0
    exact ⟨this.len, this.nd, this.ln, fun a a0 a1 b => by rw [this.mem a a0 a1 b]; simp⟩
  · intro r hr
    exact q r hr.len (fun a b a0 a1 => hr.tie h (fun _ _ => Iff.rfl) b a0 a1) hr.nd
  · rintro pre p post r C e hr c
    have hp := h.mem p (by rw [e]; simp)
    have hpl : pre.length ≤ 576 := by have := congrArg List.length e; simp at this; omega
    have l1 := hr.len
    have g1 := hr.ln p.1 (by omega) (by omega)
    refine ⟨by omega, ⟨hr.nd _ (by omega) (by omega), by omega⟩, ?_⟩
    rintro _ rfl
    have hr2 := hr.put p.2 (i := p.1) (by omega) (by omega)
    have l2 := hr2.len
    have g2 := hr2.ln p.2 (by omega) (by omega)
    refine ⟨by omega, ⟨hr2.nd _ (by omega) (by omega), by omega⟩, ?_⟩
    rintro _ rfl
    have hr3 := hr2.put p.1 (i := p.2) (by omega) (by omega)
    refine c _ ⟨hr3.len, hr3.nd, fun a a0 a1 => by have := hr3.ln a a0 a1; rw [List.length_append]; simp; omega, fun a a0 a1 b => ?_⟩
    rw [hr3.mem a a0 a1]
    simp only [List.mem_append, List.mem_singleton, Prod.ext_iff]
    constructor
    · rintro (((h | h) | h) | h)
      · exact .inl (.inl h)
      · exact .inr (.inl h)
      · exact .inl (.inr h)
      · exact .inr (.inr ⟨h.2, h.1⟩)
    · rintro ((h | h) | (h | h))
      · exact .inl (.inl (.inl h))
      · exact .inl (.inr h)
      · exact .inl (.inl (.inr h))
      · exact .inr ⟨h.2, h.1⟩
def F_all_near : FS := fun ts R => ∃ (web : Int × (List (Int × Int))) (P : (List (List (Int × Bool))) → Prop), ts = [(.fz ((eP D.int (eU (eP D.int D.int))) web))] ∧ w_all_near web P ∧ ∀ (r : List (List (Int × Bool))), P  r → R [] ((.ll (r.map (tK D.bl))))
def b_all_near : DTS := (dSeq (dSet 1 (dNews (.dk []) (dAConsP (dBin ixD true (dVar 0) (dConst (.fz (.int 0)))) dNil)))
    (dSeq (dFor (iSeqD (dBin ixD true (dVar 0) (dConst (.fz (.int 1))))) (gT 2 (gsCons (gN 2) (gsCons (gN 3) gsNil))) (dSeq (dStore true (dConst (.fz (.bl true))) (dKid (dVar 1) (dVar 2)) (dVar 3))
    (dSeq (dStore true (dConst (.fz (.bl true))) (dKid (dVar 1) (dVar 3)) (dVar 2))
    (dSeq (dKill [2, 3]) dNext))))
    (dRet (dVar 1))))
set_option maxHeartbeats 4000000 in
theorem law_all_near : ∀ ts R, ts.length = 1 → F_all_near ts R → b_all_near ⟨fun G => R (G.take 0) (.fz .non), retW 0 R⟩ (ts.map some ++ List.replicate ((["web", "found", "a", "b", "place"] : List Str).length - 1) none) := by
  rintro ts R - ⟨web, P, rfl, h, hR⟩
  unfold w_all_near at h
  unfold b_all_near
  refine q_env (G2 := [some (.fz ((eP D.int (eU (eP D.int D.int))) web)), none, none, none, none]) rfl ?_
  obtain ⟨q1, h⟩ := h
  refine p_setB (fun x => (.ll (x.map (tK D.bl)))) (G' := fun found => [some (.fz ((eP D.int (eU (eP D.int D.int))) web)), some (.ll (found.map (tK D.bl))), none, none, none]) h (sp_newsK D.bl (sa_consP (sp_bin (sp_var_fz (i := 0) rfl) rd_fz sp_con rd_fz k_ix0) fz_fz sa_nil) q1) (lt_l rfl) (fun _ => rfl) fun found h => ?_
  refine q_for1 (eP D.int D.int) (fun (found1 : List (List (Int × Bool))) => [some (.fz ((eP D.int (eU (eP D.int D.int))) web)), some (.ll (found1.map (tK D.bl))), none, none, none]) (si_seqU (sp_bin (sp_var_fz (i := 0) rfl) rd_fz sp_con rd_fz k_ix1) fz_fz) rfl h (fun found1 p P C h hC => ?_) (fun found1 h => ?_)
  · refine (sg_pair (G' := [some (.fz ((eP D.int (eU (eP D.int D.int))) web)), some (.ll (found1.map (tK D.bl))), some (.fz (D.int p.1)), some (.fz (D.int p.2)), none]) (lt_l rfl) (lt_l rfl) rfl) _ ?_
    obtain ⟨q2, q3, h⟩ := h
    obtain ⟨found2, e_found2, h⟩ := h.get
    refine p_stoLK (eb := D.bl) (x := true) rfl sp_con fz_fz (sp_var_fz (i := 2) rfl) rd_fz (sp_var_fz (i := 3) rfl) rd_fz q2 q3 (G' := [some (.fz ((eP D.int (eU (eP D.int D.int))) web)), some (.ll (found2.map (tK D.bl))), some (.fz (D.int p.1)), some (.fz (D.int p.2)), none]) (by subst e_found2; rfl) ?_
    obtain ⟨q4, q5, h⟩ := h
    obtain ⟨found3, e_found3, h⟩ := h.get
    refine p_stoLK (eb := D.bl) (x := true) rfl sp_con fz_fz (sp_var_fz (i := 3) rfl) rd_fz (sp_var_fz (i := 2) rfl) rd_fz q4 q5 (G' := [some (.fz ((eP D.int (eU (eP D.int D.int))) web)), some (.ll (found3.map (tK D.bl))), some (.fz (D.int p.1)), some (.fz (D.int p.2)), none]) (by subst e_found3; rfl) ?_
    refine p_kill (G' := [some (.fz ((eP D.int (eU (eP D.int D.int))) web)), some (.ll (found3.map (tK D.bl))), none, none, none]) rfl ?_
    exact hC _ h
  exact p_ret (sp_var (i := 1) rfl trivial) ⟨Nat.le_of_ble_eq_true rfl, .inl (hR _ h)⟩
theorem ok_all_near {f : Addr} {fd : FuncData} (Fd : C8.Def K mg "all_near" s_all_near f fd) (bd : Binds K fd ["web"] []) (T_range : mg "range" = none) : Fn P w K mg base 1 "all_near" 1 0 F_all_near := by
  refine fn_mk (body := b_all_near) Fd bd sc_all_near rfl (by decide) (fun cdv A outer s H E hgd hr => ?_) law_all_near
  have nd := sc_all_near.nd
  have hu64 := hr.units
  have hu65 := hu65 hr
  have hu1 := hu1 hr
  have hu2 := hu2 hr
  have hu0 := hr.units0
  exact (dss_cons (ds_setDicts (j := 1) rfl nd rfl rfl (sw_true rfl rfl rfl (by decide +kernel)) (by decide) (by rfl) T_range (da_consP (de_ix hu1 (de_var (pv 0)) de_int (fun _ _ => rfl)) da_nil) (blkOk_by (N := ["web", "found", "a", "b", "place"]) (sc := C8.fnScope s_all_near) (by decide +kernel)) (fun _ _ _ _ _ => pg_name (i := 4) nd rfl (by first | exact .inl rfl | exact .inr rfl)))
    (dss_cons (ds_for PassesOwn.never rfl (di_seq (de_ix hu1 (de_var (pv 0)) de_int (fun _ _ => rfl))) (dg_tup rfl (dgs_cons (dg_name (i := 2) (pg_name (i := 2) nd rfl (.inl rfl)) (fun _ _ => take_set (by decide))) (dgs_cons (dg_name (i := 3) (pg_name (i := 3) nd rfl (.inl rfl)) (fun _ _ => take_set (by decide))) dgs_nil))) (dss_cons (ds_store hu1 de_bl (de_kid (de_var (pv 1)) (de_var (pv 2)) (fun _ _ => rfl)) (de_var (pv 3)))
    (dss_cons (ds_store hu1 de_bl (de_kid (de_var (pv 1)) (de_var (pv 3)) (fun _ _ => rfl)) (de_var (pv 2)))
    (dss_kill [2, 3] dss_nil))))
    (dss_one (ds_ret (de_var (pv 1))))))
abbrev s_near : Stmt := topS 2
theorem sc_near : FnScope ["web", "place"] ["web", "place"] (C8.fnScope s_near) := C8.fnScope_by (by decide +kernel)
def w_near (web : Int × (List (Int × Int))) (place : Int) (Q : (List Int) → Prop) : Prop :=
  w_all_near web fun r_all_near =>
  (InR r_all_near place) ∧ ((gi r_all_near place).length < 64) ∧ Q (sortI ((gi r_all_near place).map (·.1)))
theorem spec_near {w : Web} {p : Int} {Q : List Int → Prop} (h : nearLP w p) (q : Q (nearL w p)) : w_near w p Q := by
  unfold w_near
  refine spec_all_near h.isw h.n24 fun r hr ht hd => ?_
  have nd := hd p h.p0 h.p1
  have m : ∀ b, b ∈ (gi r p).map (·.1) ↔ b ∈ nearL w p := fun b => by
    rw [← hk_keys, ht p b h.p0 h.p1, mem_nearL]
    exact ⟨fun t => ⟨by have := tie_rng h.isw t; omega, t⟩, fun t => t.2⟩
  have l := nodup_sub_len _ (irange 0 w.1) nd fun x mx => mem_irange.mpr (mem_nearL.mp ((m x).mp mx)).1
  rw [irange_length, List.length_map] at l
  have n24 := h.n24
  refine ⟨inR h.p0 (by have := h.p1; omega), by omega, ?_⟩
  rw [sortI_eq nd (nearL_up w p) m]; exact q
def Fw_near : FS := fun ts R => ∃ (web : Int × (List (Int × Int))) (place : Int) (P : (List Int) → Prop), ts = [(.fz ((eP D.int (eU (eP D.int D.int))) web)), (.fz (D.int place))] ∧ w_near web place P ∧ ∀ (r : List Int), P  r → R [] ((tLs D.int r))
def F_near : FS := fun ts R => ∃ (web : Int × (List (Int × Int))) (place : Int), ts = [(.fz ((eP D.int (eU (eP D.int D.int))) web)), (.fz (D.int place))] ∧ nearLP web place ∧ R [] ((tLs D.int (nearL web place)))
def b_near : DTS := (dRet (dCB1 (fun y R => sortedD [y] R) (dBin ixD true (dCall 1 F_all_near (dACons (dVar 0) dNil)) (dVar 1))))
set_option maxHeartbeats 4000000 in
theorem sim_near : ∀ ts R, ts.length = 2 → Fw_near ts R → b_near ⟨fun G => R (G.take 0) (.fz .non), retW 0 R⟩ (ts.map some ++ List.replicate ((["web", "place"] : List Str).length - 2) none) := by
  rintro ts R - ⟨web, place, P, rfl, h, hR⟩
  unfold w_near at h
  unfold b_near
  refine q_env (G2 := [some (.fz ((eP D.int (eU (eP D.int D.int))) web)), some (.fz (D.int place))]) rfl ?_
  refine q_ret ?_
  refine q_cb1 ?_
  refine q_bin ?_
  refine q_call ?_
  refine a_cons (sp_var_fz (i := 0) rfl) fz_fz ?_
  refine a_nil ?_
  refine c_fin0 (fun (x : List (List (Int × Bool))) => (.ll (x.map (tK D.bl)))) rfl rfl (fun R hR => ⟨web, _, rfl, h, hR⟩) (fun r_all_near h => ?_)
  refine w_bin1 fz_llK ?_
  refine (sp_var_fz (i := 1) rfl) _ ?_
  obtain ⟨q1, h⟩ := h
  refine w_bin2 rd_fz (k_ixL (e := (eMI D.bl)) q1) ?_
  obtain ⟨q2, h⟩ := h
  refine w_cb1 rd_fz (k_sortK (eb := D.bl) q2) ?_
  exact hR _ h
theorem law_near : ∀ ts R, ts.length = 2 → F_near ts R → b_near ⟨fun G => R (G.take 0) (.fz .non), retW 0 R⟩ (ts.map some ++ List.replicate ((["web", "place"] : List Str).length - 2) none) := by
  rintro ts R hl ⟨web, place, rfl, hp, q⟩
  exact sim_near _ R hl ⟨web, place, fun r => r = nearL web place, rfl, spec_near hp rfl, fun r e => by subst e; exact q⟩
theorem ok_near {f : Addr} {fd : FuncData} (Fd : C8.Def K mg "near" s_near f fd) (bd : Binds K fd ["web", "place"] []) (h_all_near : Fn P w K mg base 1 "all_near" 1 0 F_all_near) (T_sorted : mg "sorted" = none) : Fn P w K mg base 2 "near" 2 0 F_near := by
  refine fn_mk (body := b_near) Fd bd sc_near rfl (by decide) (fun cdv A outer s H E hgd hr => ?_) law_near
  have nd := sc_near.nd
  have hu64 := hr.units
  have hu65 := hu65 hr
  have hu1 := hu1 hr
  have hu2 := hu2 hr
  have hu0 := hr.units0
  exact (dss_one (ds_ret (de_cb1 (sorted_ok rfl) (by rfl) T_sorted (by decide +kernel) (de_ix hu1 (de_call h_all_near hgd hr (by decide) (by rfl) (da_cons (de_var (pv 0)) da_nil)) (de_var (pv 1)) (fun _ _ => rfl)))))
abbrev s_turned : Stmt := topS 3
theorem sc_turned : FnScope ["web", "beside", "ties", "a", "b"] ["web"] (C8.fnScope s_turned) := C8.fnScope_by (by decide +kernel)
def w_turned (web : Int × (List (Int × Int))) (Q : (Int × (List (Int × Int))) → Prop) : Prop :=
  w_all_near web fun r_all_near =>
  bnd (([] : List (Int × Int))) fun ties =>
  (-(2 ^ 62) ≤ web.1 ∧ web.1 < 2 ^ 62) ∧ wFor1 (irange 0 web.1) ties (fun ties3 (a1 : Int) nx =>
  (-(2 ^ 62) ≤ a1 + (1 : Int) ∧ a1 + (1 : Int) < 2 ^ 62 ∧ -(2 ^ 62) ≤ web.1 ∧ web.1 < 2 ^ 62) ∧ ((irange (a1 + (1 : Int)) web.1).length ≤ 10000000) ∧ (∀ b2 ∈ irange (a1 + (1 : Int)) web.1, ((InR r_all_near a1))) ∧ (ties3.length + (((irange (a1 + (1 : Int)) web.1).filter (fun b2 => !hk (gi r_all_near a1) b2)).map (fun b2 => (a1, b2))).length ≤ 10000000) ∧ bnd (ties3 ++ (((irange (a1 + (1 : Int)) web.1).filter (fun b2 => !hk (gi r_all_near a1) b2)).map (fun b2 => (a1, b2)))) fun ties4 =>
  nx ties4)
  (fun (ties3 : List (Int × Int)) => Q (web.1, ties3))
theorem spec_turned {w : Web} {Q : Web → Prop} (h : webP w) (q : Q (turnedF w)) : w_turned w Q := by
  unfold w_turned
  have h0 := h.isw.n0
  have hn := h.n24
  refine spec_all_near h.isw h.n24 fun r hr ht _ => ?_
  rintro _ rfl
  refine ⟨by omega, ?_⟩
  refine wFor1_z h0 (fun a t => t = rowsTo w.1 (fun i j => !tie w i j) a) (rowsTo_0 _ _).symm ?_ ?_
  · rintro _ rfl
    rw [rowsTo_n]; exact q
  · rintro a _ C a0 a1 rfl c
    have e : ((irange (a + 1) w.1).filter fun b2 => !hk (gi r a) b2) = (irange (a + 1) w.1).filter fun b => !tie w a b := List.filter_congr fun b _ => by rw [ht a b a0 a1]
    have l1 := rowsTo_len (n := w.1) (fun i j => !tie w i j) a0 (by omega)
    have l2 : a.toNat * w.1.toNat ≤ 24 * 24 := Nat.mul_le_mul (by omega) (by omega)
    have l3 := List.length_filter_le (fun b => !tie w a b) (irange (a + 1) w.1)
    have l4 := irange_length (a + 1) w.1
    refine ⟨by omega, by omega, fun b hb => inR a0 (by omega), ?_, ?_⟩
    · rw [e, List.length_map]; omega
    rintro _ rfl
    refine c _ ?_
    rw [e, rowsTo_snoc _ a0]
def Fw_turned : FS := fun ts R => ∃ (web : Int × (List (Int × Int))) (P : (Int × (List (Int × Int))) → Prop), ts = [(.fz ((eP D.int (eU (eP D.int D.int))) web))] ∧ w_turned web P ∧ ∀ (r : Int × (List (Int × Int))), P  r → R [] ((.fz ((eP D.int (eU (eP D.int D.int))) r)))
def F_turned : FS := fun ts R => ∃ (web : Int × (List (Int × Int))), ts = [(.fz ((eP D.int (eU (eP D.int D.int))) web))] ∧ webP web ∧ R [] ((.fz ((eP D.int (eU (eP D.int D.int))) (turnedF web))))
def b_turned : DTS := (dSeq (dSet 1 (dCall 1 F_all_near (dACons (dVar 0) dNil)))
    (dSeq (dSet 2 (dLst dNil))
    (dSeq (dFrz 1) (dSeq (dFor (iRange1 (dAConsP (dBin ixD true (dVar 0) (dConst (.fz (.int 0)))) dNil)) (gN 3) (dSeq (dExpr (dMeth "list" extendN false (dVar 2) (dACons (dLc (iRange2 (dAConsP (dBin addD true (dVar 3) (dConst (.fz (.int 1)))) (dAConsP (dBin ixD true (dVar 0) (dConst (.fz (.int 0)))) dNil))) (gN 4) (dVal (dBin (inD true) true (dVar 4) (dBin ixD true (dVar 1) (dVar 3)))) (dTup (dACons (dVar 3) (dACons (dVar 4) dNil))) [4]) dNil)))
    (dSeq (dKill [3]) dNext)))
    (dRet (dTup (dAConsP (dBin ixD true (dVar 0) (dConst (.fz (.int 0)))) (dAConsP (dCB1 (fun y R => tupleD [y] R) (dVar 2)) dNil))))))))
set_option maxHeartbeats 4000000 in
theorem sim_turned : ∀ ts R, ts.length = 1 → Fw_turned ts R → b_turned ⟨fun G => R (G.take 0) (.fz .non), retW 0 R⟩ (ts.map some ++ List.replicate ((["web", "beside", "ties", "a", "b"] : List Str).length - 1) none) := by
  rintro ts R - ⟨web, P, rfl, h, hR⟩
  unfold w_turned at h
  unfold b_turned
  refine q_env (G2 := [some (.fz ((eP D.int (eU (eP D.int D.int))) web)), none, none, none, none]) rfl ?_
  refine q_set ?_
  refine q_call ?_
  refine a_cons (sp_var_fz (i := 0) rfl) fz_fz ?_
  refine a_nil ?_
  refine c_fin0 (fun (x : List (List (Int × Bool))) => (.ll (x.map (tK D.bl)))) rfl rfl (fun R hR => ⟨web, _, rfl, h, hR⟩) (fun r_all_near h => ?_)
  refine w_set (G' := [some (.fz ((eP D.int (eU (eP D.int D.int))) web)), some (.ll (r_all_near.map (tK D.bl))), none, none, none]) (lt_l rfl) rfl ?_
  refine p_setB (fun x => (tLs (eP D.int D.int) x)) (G' := fun ties => [some (.fz ((eP D.int (eU (eP D.int D.int))) web)), some (.ll (r_all_near.map (tK D.bl))), some (tLs (eP D.int D.int) ties), none, none]) h (sp_lst sa_nil rfl (Nat.le_of_ble_eq_true rfl)) (lt_l rfl) (fun _ => rfl) fun ties h => ?_
  refine p_frzK (i := 1) (G' := [some (.fz ((eP D.int (eU (eP D.int D.int))) web)), some (.fz ((eL (eMI D.bl)) r_all_near)), some (tLs (eP D.int D.int) ties), none, none]) rfl rfl ?_
  obtain ⟨q9, h⟩ := h
  refine q_for1 D.int (fun (ties3 : List (Int × Int)) => [some (.fz ((eP D.int (eU (eP D.int D.int))) web)), some (.fz ((eL (eMI D.bl)) r_all_near)), some (tLs (eP D.int D.int) ties3), none, none]) (si_range1 (sa_consP (sp_bin (sp_var_fz (i := 0) rfl) rd_fz sp_con rd_fz k_ix0) fz_fz sa_nil) q9) rfl h (fun ties3 a1 P C h hC => ?_) (fun ties3 h => ?_)
  · refine (sg_name (G' := [some (.fz ((eP D.int (eU (eP D.int D.int))) web)), some (.fz ((eL (eMI D.bl)) r_all_near)), some (tLs (eP D.int D.int) ties3), some (.fz (D.int a1)), none]) (lt_l rfl) rfl) _ ?_
    obtain ⟨q10, q11, q13, q14, h⟩ := h
    obtain ⟨ties4, e_ties4, h⟩ := h.get
    refine p_ext (i := 2) (e := (eP D.int D.int)) (m := ((irange (a1 + (1 : Int)) web.1).filter (fun b2 => !hk (gi r_all_near a1) b2)).map (fun b2 => (a1, b2))) rfl (sa_cons (sp_lc D.int (fun b2 => !hk (gi r_all_near a1) b2) (fun b2 => (a1, b2)) (eP D.int D.int) (fun b2 => [some (.fz ((eP D.int (eU (eP D.int D.int))) web)), some (.fz ((eL (eMI D.bl)) r_all_near)), some (tLs (eP D.int D.int) ties3), some (.fz (D.int a1)), some (.fz (D.int b2))]) (si_range2 (sa_consP (sp_bin (sp_var_fz (i := 3) rfl) rd_fz sp_con rd_fz k_add) fz_fz (sa_consP (sp_bin (sp_var_fz (i := 0) rfl) rd_fz sp_con rd_fz k_ix0) fz_fz sa_nil)) q10) q11 (fun b2 hx => (sg_name (G' := [some (.fz ((eP D.int (eU (eP D.int D.int))) web)), some (.fz ((eL (eMI D.bl)) r_all_near)), some (tLs (eP D.int D.int) ties3), some (.fz (D.int a1)), some (.fz (D.int b2))]) (lt_l rfl) rfl)) (fun b2 hx => (have q12 := (q13 b2 hx); (st_val (sp_bin (sp_var_fz (i := 4) rfl) rd_fz (sp_bin (sp_var_fz (i := 1) rfl) rd_fz (sp_var_fz (i := 3) rfl) rd_fz (k_ixL (e := (eMI D.bl)) q12)) rd_fz (k_ninK)) rd_fz))) (fun b2 hx hp => ⟨_, (sp_tup (sa_cons (sp_var_fz (i := 3) rfl) fz_fz (sa_cons (sp_var_fz (i := 4) rfl) fz_fz sa_nil)) rfl (Nat.le_of_ble_eq_true rfl)), fz_fz⟩) (fun _ => rfl) rfl) fz_ls sa_nil) q14 (G' := [some (.fz ((eP D.int (eU (eP D.int D.int))) web)), some (.fz ((eL (eMI D.bl)) r_all_near)), some (tLs (eP D.int D.int) ties4), some (.fz (D.int a1)), none]) (by subst e_ties4; rfl) ?_
    refine p_kill (G' := [some (.fz ((eP D.int (eU (eP D.int D.int))) web)), some (.fz ((eL (eMI D.bl)) r_all_near)), some (tLs (eP D.int D.int) ties4), none, none]) rfl ?_
    exact hC _ h
  exact p_ret (sp_tup (sa_consP (sp_bin (sp_var_fz (i := 0) rfl) rd_fz sp_con rd_fz k_ix0) fz_fz (sa_consP (sp_cb1 (sp_var (i := 2) rfl trivial) (rd_pk rfl rfl) k_tupL) fz_fz sa_nil)) rfl (Nat.le_of_ble_eq_true rfl)) (hR _ h)
theorem law_turned : ∀ ts R, ts.length = 1 → F_turned ts R → b_turned ⟨fun G => R (G.take 0) (.fz .non), retW 0 R⟩ (ts.map some ++ List.replicate ((["web", "beside", "ties", "a", "b"] : List Str).length - 1) none) := by
  rintro ts R hl ⟨web, rfl, hp, q⟩
  exact sim_turned _ R hl ⟨web, fun r => r = turnedF web, rfl, spec_turned hp rfl, fun r e => by subst e; exact q⟩
theorem ok_turned {f : Addr} {fd : FuncData} (Fd : C8.Def K mg "turned" s_turned f fd) (bd : Binds K fd ["web"] []) (h_all_near : Fn P w K mg base 1 "all_near" 1 0 F_all_near) (T_range : mg "range" = none) (T_tuple : mg "tuple" = none) : Fn P w K mg base 2 "turned" 1 0 F_turned := by
  refine fn_mk (body := b_turned) Fd bd sc_turned rfl (by decide) (fun cdv A outer s H E hgd hr => ?_) law_turned
  have nd := sc_turned.nd
  have hu64 := hr.units
  have hu65 := hu65 hr
  have hu1 := hu1 hr
  have hu2 := hu2 hr
  have hu0 := hr.units0
  exact (dss_cons (ds_set (i := 1) nd rfl (.inr rfl) (de_call h_all_near hgd hr (by decide) (by rfl) (da_cons (de_var (pv 0)) da_nil)) (by decide))
    (dss_cons (ds_set (i := 2) nd rfl (.inl rfl) (de_lst da_nil) (by decide))
    (dss_frz 1 (dss_cons (ds_for PassesOwn.never rfl (di_range1 (by rfl) T_range (da_consP (de_ix hu1 (de_var (pv 0)) de_int (fun _ _ => rfl)) da_nil)) (dg_name (i := 3) (pg_name (i := 3) nd rfl (.inr rfl)) (fun _ _ => take_set (by decide))) (dss_cons (ds_expr (de_meth (by decide) PySem.F.plainAttrs_list PySem.F.slot_list_extend PySem.F.type_list_extend extend_ok (de_var (pv 2)) (da_cons (de_lc (own := [("b", 4)]) rfl nd (di_range2 (by rfl) T_range (da_consP (de_bin add_ok (de_var (pv 3)) de_int) (da_consP (de_ix hu1 (de_var (pv 0)) de_int (fun _ _ => rfl)) da_nil))) (blkOk_by (N := ["web", "beside", "ties", "a", "b"]) (sc := C8.fnScope s_turned) (by decide +kernel)) (fun _ _ _ _ _ => (dg_name (i := 4) (pg_name (i := 4) nd rfl (by first | exact .inl rfl | exact .inr rfl)) (fun σ x => wipe_set x (by decide)))) (fun _ _ _ _ _ => (dts_one (dt_cmp (notin_ok hu65) rfl (de_var (pv 4)) (de_ix hu1 (de_var (pv 1)) (de_var (pv 3)) (fun _ _ => rfl))))) (fun _ _ _ _ _ => (de_tup (da_cons (de_var (pv 3)) (da_cons (de_var (pv 4)) da_nil))))) da_nil)))
    (dss_kill [3] dss_nil)))
    (dss_one (ds_ret (de_tup (da_consP (de_ix hu1 (de_var (pv 0)) de_int (fun _ _ => rfl)) (da_consP (de_ct1 tuple_ok (by rfl) T_tuple (by decide +kernel) (de_var (pv 2))) da_nil)))))))))
abbrev s_grown : Stmt := topS 5
theorem sc_grown : FnScope ["web", "ties", "found", "at", "place", "knot", "common", "other"] ["web"] (C8.fnScope s_grown) := C8.fnScope_by (by decide +kernel)
def w_grown (web : Int × (List (Int × Int))) (Q : (List ((List Int) × (List Int))) → Prop) : Prop :=
  (-(2 ^ 62) ≤ web.1 ∧ web.1 < 2 ^ 62) ∧ ((irange 0 web.1).length ≤ 10000000) ∧ (∀ place ∈ irange 0 web.1, (nearLP web place)) ∧ bnd ((irange 0 web.1).map (fun place => nearL web place)) fun ties =>
  (-(2 ^ 62) ≤ web.1 ∧ web.1 ≤ 1000) ∧ bnd ([(([] : List Int), irange 0 web.1)]) fun found =>
  wWhile2 found (0 : Int) (fun found1 at_v nx ex =>
  wIf (decide (at_v < (found1.length : Int)))
  ((InR found1 at_v) ∧ bnd (gi found1 at_v) fun p =>
  bnd (at_v + (1 : Int)) fun at_v1 =>
  wFor1 (p.2) found1 (fun found2 (place1 : Int) nx =>
  wJ1 (fun j1 =>
  ((decide (p.1 = ([] : List Int))) = false → (InR p.1 (-(1 : Int)))) ∧ wIf ((decide (p.1 = ([] : List Int))) || (decide (gi p.1 (-(1 : Int)) < place1)))
  ((p.1.length + ([place1] : List Int).length ≤ 10000000) ∧ ((p.2).length ≤ 10000000) ∧ (∀ other ∈ p.2, ((InR ties place1))) ∧ (found2.length < 10000000) ∧ bnd (found2 ++ [(p.1 ++ ([place1] : List Int), ((p.2).filter (fun other => inl other (gi ties place1))).map (fun other => other))]) fun found4 =>
  j1 found4)
  (j1 found2))
  (fun (found3 : List ((List Int) × (List Int))) => nx found3))
  (fun (found2 : List ((List Int) × (List Int))) => nx found2 at_v1))
  (ex found1 at_v))
  (fun (found1 : List ((List Int) × (List Int))) (at_v : Int) => Q found1)
theorem spec_grown {w : Web} {Q : List (List Int × List Int) → Prop} (h : knotsP w) (q : Q (grownF w)) : w_grown w Q := by
  unfold w_grown
  have h0 := h.isw.n0
  have hn := h.n20
  have l0 := irange_length 0 w.1
  have big := knots_big h _ (Nat.le_refl _)
  refine ⟨by omega, by omega, fun p mp => ⟨h.isw, by omega, (mem_irange.mp mp).1, (mem_irange.mp mp).2⟩, ?_⟩
  rintro _ rfl
  refine ⟨by omega, ?_⟩
  rintro _ rfl
  have gt : ∀ v, 0 ≤ v → v < w.1 → gi ((irange 0 w.1).map fun place => nearL w place) v = nearL w v := fun v v0 v1 => by
    rw [gi_map _ v0 (by omega), gi_irange v0 (by omega), Int.zero_add]
  refine ⟨fun n F t => GrowI w F t ∧ n = (knotsF w).length - t.toNat ∧ bfsL w n F t = grownF w, ⟨_, GrowI.start w, rfl, rfl⟩, ?_⟩
  rintro n F t ⟨G, en, eF⟩
  have gl := G.len h.isw
  have t0 := G.t0
  have t1 := G.t1
  refine ⟨fun hb => ?_, fun hb => ?_⟩
  · have hb := of_decide_eq_true hb
    have mt := gi_mem t0 hb
    obtain ⟨hk, hc⟩ := G.ok _ mt
    have kl := hk.len h0
    refine ⟨inR t0 hb, ?_⟩
    rintro p rfl _ rfl
    have cl : (gi F t).2.length ≤ 20 := by
      rw [hc]; unfold commonL
      have := List.length_filter_le (fun v => (gi F t).1.all fun a => tie w a v) (irange 0 w.1)
      omega
    refine wFor1_inv (fun pre X => X = F ++ kidsL w (gi F t).1 pre) (by simp [kidsL]) ?_ ?_
    · rintro _ rfl
      rw [hc]
      cases n with
      | zero => omega
      | succ n =>
        unfold bfsL at eF
        rw [if_pos hb] at eF
        exact ⟨n, by omega, G.step hb, by omega, eF⟩
    · rintro pre v post _ C e rfl c
      have mv : v ∈ commonL w (gi F t).1 := by rw [← hc, e]; simp
      have hv := mem_common.mp mv
      have lp : pre.length ≤ 20 := by have := congrArg List.length e; simp at this; omega
      have lk : (kidsL w (gi F t).1 pre).length ≤ 20 := by
        unfold kidsL
        rw [List.length_map]
        exact Nat.le_trans (List.length_filter_le _ _) lp
      have nb : F.length ≤ 1048576 := Nat.le_trans gl big
      refine ⟨fun X => X = F ++ kidsL w (gi F t).1 (pre ++ [v]), ⟨fun hne => ?_, fun hb => ?_, fun hb => ?_⟩, fun X hX => c X hX⟩
      · have hne := of_decide_eq_false hne
        have := List.length_pos_iff.mpr hne
        constructor <;> omega
      · refine ⟨by simp; omega, by omega, fun o mo => ?_, by rw [List.length_append]; omega, ?_⟩
        · constructor
          · rw [List.length_map]; omega
          · rw [List.length_map]; omega
        rintro _ rfl
        have hb : okL (gi F t).1 v = true := hb
        rw [kids_snoc, if_pos hb, List.map_id', gt v hv.1.1 hv.1.2, hc, common_snoc, List.append_assoc]
      · have hb : okL (gi F t).1 v = false := hb
        rw [kids_snoc, if_neg (by rw [hb]; simp), List.append_nil]
  · have hb := of_decide_eq_false hb
    rw [bfs_end (by omega)] at eF
    rw [eF]; exact q
def Fw_grown : FS := fun ts R => ∃ (web : Int × (List (Int × Int))) (P : (List ((List Int) × (List Int))) → Prop), ts = [(.fz ((eP D.int (eU (eP D.int D.int))) web))] ∧ w_grown web P ∧ ∀ (r : List ((List Int) × (List Int))), P  r → R [] ((tLs (eP (eU D.int) (eL D.int)) r))
def F_grown : FS := fun ts R => ∃ (web : Int × (List (Int × Int))), ts = [(.fz ((eP D.int (eU (eP D.int D.int))) web))] ∧ knotsP web ∧ R [] ((tLs (eP (eU D.int) (eL D.int)) (grownF web)))
def b_grown : DTS := (dSeq (dSet 1 (dLc (iRange1 (dAConsP (dBin ixD true (dVar 0) (dConst (.fz (.int 0)))) dNil)) (gN 4) dYes (dCall 2 F_near (dACons (dVar 0) (dACons (dVar 4) dNil))) [4]))
    (dSeq (dSet 2 (dLst (dAConsP (dTup (dAConsP (dTup dNil) (dAConsP (dListR1 (dBin ixD true (dVar 0) (dConst (.fz (.int 0))))) dNil))) dNil)))
    (dSeq (dSet 3 (dConst (.fz (.int 0))))
    (dSeq (dWhile (dVal (dBin (cmpI fun i j => decide (i < j)) true (dVar 3) (dCB1 (fun y R => lenD [y] R) (dVar 2)))) (dSeq (dAsg (dBin ixD true (dVar 2) (dVar 3)) (gT 2 (gsCons (gN 5) (gsCons (gN 6) gsNil))))
    (dSeq (dSet 3 (dBin addD true (dVar 3) (dConst (.fz (.int 1)))))
    (dSeq (dFor (iSeqD (dVar 6)) (gN 4) (dSeq (dCut (dIf (dOr (dVal (dBin eqD true (dVar 5) (dTup dNil))) (dVal (dBin (cmpI fun i j => decide (j < i)) true (dVar 4) (dBin ixD true (dVar 5) (dUn negD (dConst (.fz (.int 1)))))))) (dSeq (dExpr (dMeth "list" appendN false (dVar 2) (dACons (dTup (dACons (dBin addD false (dVar 5) (dTup (dACons (dVar 4) dNil))) (dACons (dLc (iSeqD (dVar 6)) (gN 7) (dVal (dBin (inD false) true (dVar 7) (dBin ixD true (dVar 1) (dVar 4)))) (dVar 7) [7]) dNil))) dNil)))
    dNext) dNext))
    (dSeq (dKill [4]) dNext)))
    (dSeq (dKill [5, 6]) dNext)))))
    (dRet (dVar 2))))))
set_option maxHeartbeats 4000000 in
theorem sim_grown : ∀ ts R, ts.length = 1 → Fw_grown ts R → b_grown ⟨fun G => R (G.take 0) (.fz .non), retW 0 R⟩ (ts.map some ++ List.replicate ((["web", "ties", "found", "at", "place", "knot", "common", "other"] : List Str).length - 1) none) := by
  rintro ts R - ⟨web, P, rfl, h, hR⟩
  unfold w_grown at h
  unfold b_grown
  refine q_env (G2 := [some (.fz ((eP D.int (eU (eP D.int D.int))) web)), none, none, none, none, none, none, none]) rfl ?_
  obtain ⟨q1, q2, q4, h⟩ := h
  refine p_setB (fun x => (tLs (eL D.int) x)) (G' := fun ties => [some (.fz ((eP D.int (eU (eP D.int D.int))) web)), some (tLs (eL D.int) ties), none, none, none, none, none, none]) h (sp_lc0 D.int (fun place => nearL web place) (eL D.int) (fun place => [some (.fz ((eP D.int (eU (eP D.int D.int))) web)), none, none, none, some (.fz (D.int place)), none, none, none]) (si_range1 (sa_consP (sp_bin (sp_var_fz (i := 0) rfl) rd_fz sp_con rd_fz k_ix0) fz_fz sa_nil) q1) q2 (fun place hx => (sg_name (G' := [some (.fz ((eP D.int (eU (eP D.int D.int))) web)), none, none, none, some (.fz (D.int place)), none, none, none]) (lt_l rfl) rfl)) (fun place hx => (have q3 := q4 place hx; ⟨_, (sp_call (sa_cons (sp_var_fz (i := 0) rfl) fz_fz (sa_cons (sp_var_fz (i := 4) rfl) fz_fz sa_nil)) rfl rfl (fun R hR => ⟨web, place, rfl, q3, hR⟩)), fz_ls⟩)) (fun _ => rfl) rfl) (lt_l rfl) (fun _ => rfl) fun ties h => ?_
  obtain ⟨q5, h⟩ := h
  refine p_setB (fun x => (tLs (eP (eU D.int) (eL D.int)) x)) (G' := fun found => [some (.fz ((eP D.int (eU (eP D.int D.int))) web)), some (tLs (eL D.int) ties), some (tLs (eP (eU D.int) (eL D.int)) found), none, none, none, none, none]) h (sp_lst (sa_consP (sp_tup (sa_consP (sp_tup sa_nil rfl (Nat.le_of_ble_eq_true rfl)) fz_fz (sa_consP (sp_listR1 (sp_bin (sp_var_fz (i := 0) rfl) rd_fz sp_con rd_fz k_ix0) rd_fz q5) fz_ls sa_nil)) rfl (Nat.le_of_ble_eq_true rfl)) fz_fz sa_nil) rfl (Nat.le_of_ble_eq_true rfl)) (lt_l rfl) (fun _ => rfl) fun found h => ?_
  refine p_set (G' := [some (.fz ((eP D.int (eU (eP D.int D.int))) web)), some (tLs (eL D.int) ties), some (tLs (eP (eU D.int) (eL D.int)) found), some (.fz (D.int (0 : Int))), none, none, none, none]) sp_con (lt_l rfl) rfl ?_
  refine q_while2 (fun (found1 : List ((List Int) × (List Int))) (at_v : Int) => [some (.fz ((eP D.int (eU (eP D.int D.int))) web)), some (tLs (eL D.int) ties), some (tLs (eP (eU D.int) (eL D.int)) found1), some (.fz (D.int at_v)), none, none, none, none]) rfl h (fun found1 at_v P X C D_ h hC hD => ?_) (fun found1 at_v h => ?_)
  · refine (st_val (sp_bin (sp_var_fz (i := 3) rfl) rd_fz (sp_cb1 (sp_var (i := 2) rfl trivial) (rd_pk rfl rfl) (k_lenL (e := (eP (eU D.int) (eL D.int))))) rd_fz k_lt) rd_fz) _ ?_
    refine q_ite (fun hb => ?_) (fun hb => hD _ _ (h.2 hb))
    replace h := h.1 hb
    obtain ⟨q6, h⟩ := h
    refine p_asgB (fun x => (eP (eU D.int) (eL D.int)) x) (G' := fun p => [some (.fz ((eP D.int (eU (eP D.int D.int))) web)), some (tLs (eL D.int) ties), some (tLs (eP (eU D.int) (eL D.int)) found1), some (.fz (D.int at_v)), none, some (.fz ((eU D.int) p.1)), some (.fz ((eL D.int) p.2)), none]) h (sp_bin (sp_var (i := 2) rfl trivial) (rd_pk rfl rfl) (sp_var_fz (i := 3) rfl) rd_fz (k_ixL (e := (eP (eU D.int) (eL D.int))) q6)) fz_fz (fun p => (sg_pair (G' := [some (.fz ((eP D.int (eU (eP D.int D.int))) web)), some (tLs (eL D.int) ties), some (tLs (eP (eU D.int) (eL D.int)) found1), some (.fz (D.int at_v)), none, some (.fz ((eU D.int) p.1)), some (.fz ((eL D.int) p.2)), none]) (lt_l rfl) (lt_l rfl) rfl)) fun p h => ?_
    refine p_setB (fun x => (.fz (D.int x))) (G' := fun at_v1 => [some (.fz ((eP D.int (eU (eP D.int D.int))) web)), some (tLs (eL D.int) ties), some (tLs (eP (eU D.int) (eL D.int)) found1), some (.fz (D.int at_v1)), none, some (.fz ((eU D.int) p.1)), some (.fz ((eL D.int) p.2)), none]) h (sp_bin (sp_var_fz (i := 3) rfl) rd_fz sp_con rd_fz k_add) (lt_l rfl) (fun _ => rfl) fun at_v1 h => ?_
    refine q_for1 D.int (fun (found2 : List ((List Int) × (List Int))) => [some (.fz ((eP D.int (eU (eP D.int D.int))) web)), some (tLs (eL D.int) ties), some (tLs (eP (eU D.int) (eL D.int)) found2), some (.fz (D.int at_v1)), none, some (.fz ((eU D.int) p.1)), some (.fz ((eL D.int) p.2)), none]) (si_seqL (sp_var_fz (i := 6) rfl) fz_fz) rfl h (fun found2 place1 P C h hC => ?_) (fun found2 h => ?_)
    · refine (sg_name (G' := [some (.fz ((eP D.int (eU (eP D.int D.int))) web)), some (tLs (eL D.int) ties), some (tLs (eP (eU D.int) (eL D.int)) found2), some (.fz (D.int at_v1)), some (.fz (D.int place1)), some (.fz ((eU D.int) p.1)), some (.fz ((eL D.int) p.2)), none]) (lt_l rfl) rfl) _ ?_
      refine q_cut1 (fun (found3 : List ((List Int) × (List Int))) => [some (.fz ((eP D.int (eU (eP D.int D.int))) web)), some (tLs (eL D.int) ties), some (tLs (eP (eU D.int) (eL D.int)) found3), some (.fz (D.int at_v1)), some (.fz (D.int place1)), some (.fz ((eU D.int) p.1)), some (.fz ((eL D.int) p.2)), none]) h (fun j1 h => ?_) (fun found3 h => ?_)
      · obtain ⟨q8, h⟩ := h
        refine p_if (st_or (st_val (sp_bin (sp_var_fz (i := 5) rfl) rd_fz (sp_tup sa_nil rfl (Nat.le_of_ble_eq_true rfl)) rd_fz (k_eq (a := p.1) (b := ([] : List Int)) (ok_U ok_int) (Nat.le_of_ble_eq_true rfl))) rd_fz) (fun hb => (have q7 := q8 hb; (st_val (sp_bin (sp_var_fz (i := 4) rfl) rd_fz (sp_bin (sp_var_fz (i := 5) rfl) rd_fz (sp_un sp_con rd_fz k_neg) rd_fz (k_ixU (e := D.int) q7)) rd_fz k_gt) rd_fz)))) (fun hb => ?_) (fun hb => ?_)
        · replace h := h.1 hb
          obtain ⟨q9, q10, q12, q13, h⟩ := h
          obtain ⟨found4, e_found4, h⟩ := h.get
          refine p_app (i := 2) (e := (eP (eU D.int) (eL D.int))) (x := (p.1 ++ ([place1] : List Int), ((p.2).filter (fun other => inl other (gi ties place1))).map (fun other => other))) rfl (sa_cons (sp_tup (sa_cons (sp_binF (sp_var_fz (i := 5) rfl) fz_fz (sp_tup (sa_cons (sp_var_fz (i := 4) rfl) fz_fz sa_nil) rfl (Nat.le_of_ble_eq_true rfl)) rd_fz (k_catU (e := D.int) q9)) fz_fz (sa_cons (sp_lc D.int (fun other => inl other (gi ties place1)) (fun other => other) D.int (fun other => [some (.fz ((eP D.int (eU (eP D.int D.int))) web)), some (tLs (eL D.int) ties), some (tLs (eP (eU D.int) (eL D.int)) found2), some (.fz (D.int at_v1)), some (.fz (D.int place1)), some (.fz ((eU D.int) p.1)), some (.fz ((eL D.int) p.2)), some (.fz (D.int other))]) (si_seqL (sp_var_fz (i := 6) rfl) fz_fz) q10 (fun other hx => (sg_name (G' := [some (.fz ((eP D.int (eU (eP D.int D.int))) web)), some (tLs (eL D.int) ties), some (tLs (eP (eU D.int) (eL D.int)) found2), some (.fz (D.int at_v1)), some (.fz (D.int place1)), some (.fz ((eU D.int) p.1)), some (.fz ((eL D.int) p.2)), some (.fz (D.int other))]) (lt_l rfl) rfl)) (fun other hx => (have q11 := (q12 other hx); (st_val (sp_bin (sp_var_fz (i := 7) rfl) rd_fz (sp_bin (sp_var (i := 1) rfl trivial) (rd_pk rfl rfl) (sp_var_fz (i := 4) rfl) rd_fz (k_ixL (e := (eL D.int)) q11)) rd_fz (k_inL (a := other) (l := gi ties place1) ok_int (Nat.le_of_ble_eq_true rfl))) rd_fz))) (fun other hx hp => ⟨_, (sp_var_fz (i := 7) rfl), fz_fz⟩) (fun _ => rfl) rfl) fz_ls sa_nil)) rfl (Nat.le_of_ble_eq_true rfl)) fz_fz sa_nil) q13 (G' := [some (.fz ((eP D.int (eU (eP D.int D.int))) web)), some (tLs (eL D.int) ties), some (tLs (eP (eU D.int) (eL D.int)) found4), some (.fz (D.int at_v1)), some (.fz (D.int place1)), some (.fz ((eU D.int) p.1)), some (.fz ((eL D.int) p.2)), none]) (by subst e_found4; rfl) ?_
          exact ⟨_, h, rfl⟩
        · replace h := h.2 hb
          exact ⟨_, h, rfl⟩
      refine p_kill (G' := [some (.fz ((eP D.int (eU (eP D.int D.int))) web)), some (tLs (eL D.int) ties), some (tLs (eP (eU D.int) (eL D.int)) found3), some (.fz (D.int at_v1)), none, some (.fz ((eU D.int) p.1)), some (.fz ((eL D.int) p.2)), none]) rfl ?_
      exact hC _ h
    refine p_kill (G' := [some (.fz ((eP D.int (eU (eP D.int D.int))) web)), some (tLs (eL D.int) ties), some (tLs (eP (eU D.int) (eL D.int)) found2), some (.fz (D.int at_v1)), none, none, none, none]) rfl ?_
    exact hC _ _ h
  exact p_ret (sp_var (i := 2) rfl trivial) ⟨Nat.le_of_ble_eq_true rfl, .inl (hR _ h)⟩
theorem law_grown : ∀ ts R, ts.length = 1 → F_grown ts R → b_grown ⟨fun G => R (G.take 0) (.fz .non), retW 0 R⟩ (ts.map some ++ List.replicate ((["web", "ties", "found", "at", "place", "knot", "common", "other"] : List Str).length - 1) none) := by
  rintro ts R hl ⟨web, rfl, hp, q⟩
  exact sim_grown _ R hl ⟨web, fun r => r = grownF web, rfl, spec_grown hp rfl, fun r e => by subst e; exact q⟩
theorem ok_grown {f : Addr} {fd : FuncData} (Fd : C8.Def K mg "grown" s_grown f fd) (bd : Binds K fd ["web"] []) (h_near : Fn P w K mg base 2 "near" 2 0 F_near) (T_len : mg "len" = none) (T_list : mg "list" = none) (T_range : mg "range" = none) : Fn P w K mg base 3 "grown" 1 0 F_grown := by
  refine fn_mk (body := b_grown) Fd bd sc_grown rfl (by decide) (fun cdv A outer s H E hgd hr => ?_) law_grown
  have nd := sc_grown.nd
  have hu64 := hr.units
  have hu65 := hu65 hr
  have hu1 := hu1 hr
  have hu2 := hu2 hr
  have hu0 := hr.units0
  exact (dss_cons (ds_set (i := 1) nd rfl (.inr rfl) (de_lc (own := [("place", 4)]) rfl nd (di_range1 (by rfl) T_range (da_consP (de_ix hu1 (de_var (pv 0)) de_int (fun _ _ => rfl)) da_nil)) (blkOk_by (N := ["web", "ties", "found", "at", "place", "knot", "common", "other"]) (sc := C8.fnScope s_grown) (by decide +kernel)) (fun _ _ _ _ _ => (dg_name (i := 4) (pg_name (i := 4) nd rfl (by first | exact .inl rfl | exact .inr rfl)) (fun σ x => wipe_set x (by decide)))) (fun _ _ _ _ _ => dts_nil) (fun _ _ _ _ _ => (de_call h_near hgd hr (by decide) (by rfl) (da_cons (de_var (pv 0)) (da_cons (de_var (pv 4)) da_nil))))) (by decide))
    (dss_cons (ds_set (i := 2) nd rfl (.inl rfl) (de_lst (da_consP (de_tup (da_consP (de_tup da_nil) (da_consP (de_listR1 rfl (by rfl) T_list (by rfl) T_range (de_ix hu1 (de_var (pv 0)) de_int (fun _ _ => rfl))) da_nil))) da_nil)) (by decide))
    (dss_cons (ds_set (i := 3) nd rfl (.inl rfl) de_int (by decide))
    (dss_cons (ds_while PassesOwn.never (dt_cmp lt_ok (nomark _) (de_var (pv 3)) (de_cb1 len_ok (by rfl) T_len (by decide +kernel) (de_var (pv 2)))) (dss_cons (ds_asg (de_ix hu1 (de_var (pv 2)) (de_var (pv 3)) (fun _ _ => rfl)) (dg_tup rfl (dgs_cons (dg_name (i := 5) (pg_name (i := 5) nd rfl (.inl rfl)) (fun _ _ => take_set (by decide))) (dgs_cons (dg_name (i := 6) (pg_name (i := 6) nd rfl (.inl rfl)) (fun _ _ => take_set (by decide))) dgs_nil))))
    (dss_cons (ds_set (i := 3) nd rfl (.inl rfl) (de_bin add_ok (de_var (pv 3)) de_int) (by decide))
    (dss_cons (ds_for PassesOwn.never rfl (di_seq (de_var (pv 6))) (dg_name (i := 4) (pg_name (i := 4) nd rfl (.inr rfl)) (fun _ _ => take_set (by decide))) (dss_cons (ds_cut (ds_if (DW.dt (dw_or (dt_cmp (eq_ok hu64) (nomark _) (de_var (pv 5)) (de_tup da_nil)) (dw_or1 (dt_cmp gt_ok (nomark _) (de_var (pv 4)) (de_ix hu1 (de_var (pv 5)) (de_un neg_ok de_int) (fun _ _ => rfl)))))) (dss_cons (ds_expr (de_meth (by decide) PySem.F.plainAttrs_list PySem.F.slot_list_append PySem.F.type_list_append append_ok (de_var (pv 2)) (da_cons (de_tup (da_cons (de_bin add_ok (de_var (pv 5)) (de_tup (da_cons (de_var (pv 4)) da_nil))) (da_cons (de_lc (own := [("other", 7)]) rfl nd (di_seq (de_var (pv 6))) (blkOk_by (N := ["web", "ties", "found", "at", "place", "knot", "common", "other"]) (sc := C8.fnScope s_grown) (by decide +kernel)) (fun _ _ _ _ _ => (dg_name (i := 7) (pg_name (i := 7) nd rfl (by first | exact .inl rfl | exact .inr rfl)) (fun σ x => wipe_set x (by decide)))) (fun _ _ _ _ _ => (dts_one (dt_cmp (in_ok hu65) rfl (de_var (pv 7)) (de_ix hu1 (de_var (pv 1)) (de_var (pv 4)) (fun _ _ => rfl))))) (fun _ _ _ _ _ => (de_var (pv 7)))) da_nil))) da_nil)))
    dss_nil) dss_nil))
    (dss_kill [4] dss_nil)))
    (dss_kill [5, 6] dss_nil)))))
    (dss_one (ds_ret (de_var (pv 2))))))))
abbrev s_full_knots : Stmt := topS 6
theorem sc_full_knots : FnScope ["web", "knot", "common"] ["web"] (C8.fnScope s_full_knots) := C8.fnScope_by (by decide +kernel)
def w_full_knots (web : Int × (List (Int × Int))) (Q : (List (List Int)) → Prop) : Prop :=
  (knotsP web) ∧ ((grownF web).length ≤ 10000000) ∧ (2 ≤ (((grownF web).filter (fun p => decide (p.2 = ([] : List Int)))).map (fun p => p.1)).length → ∀ k ∈ ((grownF web).filter (fun p => decide (p.2 = ([] : List Int)))).map (fun p => p.1), k ≠ []) ∧ Q (sortK (((grownF web).filter (fun p => decide (p.2 = ([] : List Int)))).map (fun p => p.1)))
theorem spec_full_knots {w : Web} {Q : List (List Int) → Prop} (h : knotsP w) (q : Q (fullF w)) : w_full_knots w Q := by
  unfold w_full_knots
  have big := knots_big h _ (Nat.le_refl _)
  obtain ⟨t, G, _⟩ := grownF_ok h.isw
  have gl := G.len h.isw
  exact ⟨h, Nat.le_trans gl (Nat.le_trans big (by omega)), fullL_ne h.isw, q⟩
def Fw_full_knots : FS := fun ts R => ∃ (web : Int × (List (Int × Int))) (P : (List (List Int)) → Prop), ts = [(.fz ((eP D.int (eU (eP D.int D.int))) web))] ∧ w_full_knots web P ∧ ∀ (r : List (List Int)), P  r → R [] ((tLs (eU D.int) r))
def F_full_knots : FS := fun ts R => ∃ (web : Int × (List (Int × Int))), ts = [(.fz ((eP D.int (eU (eP D.int D.int))) web))] ∧ knotsP web ∧ R [] ((tLs (eU D.int) (fullF web)))
def b_full_knots : DTS := (dRet (dCB1 (fun y R => sortedND [y] R) (dLc (iSeqD (dCall 1 F_grown (dACons (dVar 0) dNil))) (gT 2 (gsCons (gN 1) (gsCons (gN 2) gsNil))) (dVal (dBin eqD true (dVar 2) (dLst dNil))) (dVar 1) [1, 2])))
set_option maxHeartbeats 4000000 in
theorem sim_full_knots : ∀ ts R, ts.length = 1 → Fw_full_knots ts R → b_full_knots ⟨fun G => R (G.take 0) (.fz .non), retW 0 R⟩ (ts.map some ++ List.replicate ((["web", "knot", "common"] : List Str).length - 1) none) := by
  rintro ts R - ⟨web, P, rfl, h, hR⟩
  unfold w_full_knots at h
  unfold b_full_knots
  refine q_env (G2 := [some (.fz ((eP D.int (eU (eP D.int D.int))) web)), none, none]) rfl ?_
  obtain ⟨q1, q2, q3, h⟩ := h
  exact p_ret (sp_cb1 (sp_lc (eP (eU D.int) (eL D.int)) (fun p => decide (p.2 = ([] : List Int))) (fun p => p.1) (eU D.int) (fun p => [some (.fz ((eP D.int (eU (eP D.int D.int))) web)), some (.fz ((eU D.int) p.1)), some (.fz ((eL D.int) p.2))]) (si_seqL (sp_call (sa_cons (sp_var_fz (i := 0) rfl) fz_fz sa_nil) rfl rfl (fun R hR => ⟨web, rfl, q1, hR⟩)) fz_ls) q2 (fun p hx => (sg_pair (G' := [some (.fz ((eP D.int (eU (eP D.int D.int))) web)), some (.fz ((eU D.int) p.1)), some (.fz ((eL D.int) p.2))]) (lt_l rfl) (lt_l rfl) rfl)) (fun p hx => (st_val (sp_bin (sp_var_fz (i := 2) rfl) rd_fz (sp_lst sa_nil rfl (Nat.le_of_ble_eq_true rfl)) rd_ls (k_eq (a := p.2) (b := ([] : List Int)) (ok_L ok_int) (Nat.le_of_ble_eq_true rfl))) rd_fz)) (fun p hx hp => ⟨_, (sp_var_fz (i := 1) rfl), fz_fz⟩) (fun _ => rfl) rfl) rd_ls (k_sortU q3)) (hR _ h)
theorem law_full_knots : ∀ ts R, ts.length = 1 → F_full_knots ts R → b_full_knots ⟨fun G => R (G.take 0) (.fz .non), retW 0 R⟩ (ts.map some ++ List.replicate ((["web", "knot", "common"] : List Str).length - 1) none) := by
  rintro ts R hl ⟨web, rfl, hp, q⟩
  exact sim_full_knots _ R hl ⟨web, fun r => r = fullF web, rfl, spec_full_knots hp rfl, fun r e => by subst e; exact q⟩
theorem ok_full_knots {f : Addr} {fd : FuncData} (Fd : C8.Def K mg "full_knots" s_full_knots f fd) (bd : Binds K fd ["web"] []) (h_grown : Fn P w K mg base 3 "grown" 1 0 F_grown) (T_sorted : mg "sorted" = none) : Fn P w K mg base 4 "full_knots" 1 0 F_full_knots := by
  refine fn_mk (body := b_full_knots) Fd bd sc_full_knots rfl (by decide) (fun cdv A outer s H E hgd hr => ?_) law_full_knots
  have nd := sc_full_knots.nd
  have hu64 := hr.units
  have hu65 := hu65 hr
  have hu1 := hu1 hr
  have hu2 := hu2 hr
  have hu0 := hr.units0
  exact (dss_one (ds_ret (de_cb1 sortedN_ok (by rfl) T_sorted (by decide +kernel) (de_lc (own := [("knot", 1), ("common", 2)]) rfl nd (di_seq (de_call h_grown hgd hr (by decide) (by rfl) (da_cons (de_var (pv 0)) da_nil))) (blkOk_by (N := ["web", "knot", "common"]) (sc := C8.fnScope s_full_knots) (by decide +kernel)) (fun _ _ _ _ _ => (dg_tup rfl (dgs_cons (dg_name (i := 1) (pg_name (i := 1) nd rfl (by first | exact .inl rfl | exact .inr rfl)) (fun σ x => wipe_set x (by decide))) (dgs_cons (dg_name (i := 2) (pg_name (i := 2) nd rfl (by first | exact .inl rfl | exact .inr rfl)) (fun σ x => wipe_set x (by decide))) dgs_nil)))) (fun _ _ _ _ _ => (dts_one (dt_cmp (eq_ok hu64) (nomark _) (de_var (pv 2)) (de_lst da_nil)))) (fun _ _ _ _ _ => (de_var (pv 1)))))))
abbrev s_fraction : Stmt := topS 10
theorem sc_fraction : FnScope ["top", "bottom", "one", "other"] ["top", "bottom"] (C8.fnScope s_fraction) := C8.fnScope_by (by decide +kernel)
def w_fraction (top : Int) (bottom : Int) (Q : (Int × Int) → Prop) : Prop :=
  bnd ((if top < 0 then -top else top)) fun one =>
  bnd ((if bottom < 0 then -bottom else bottom)) fun other =>
  wWhile2 one other (fun one1 other1 nx ex =>
  wIf (!decide (other1 = (0 : Int)))
  ((0 < other1) ∧ bnd (one1 % other1) fun other2 =>
  nx other1 other2)
  (ex one1 other1))
  (fun (one1 : Int) (other1 : Int) => wJ1 (fun j1 =>
  wIf (decide (bottom < (0 : Int)))
  (bnd ((0 : Int) - one1) fun one3 =>
  j1 one3)
  (j1 one1))
  (fun (one2 : Int) => (0 < one2 ∧ one2 < 2 ^ 5000) ∧ (0 < one2 ∧ one2 < 2 ^ 5000) ∧ Q (top / one2, bottom / one2)))
theorem spec_fraction {t b : Int} (h : fracP t b) {Q : Int × Int → Prop} (q : Q (fracF t b)) : w_fraction t b Q := by
  obtain ⟨h0, h1⟩ := h
  have gp : 0 < Int.gcd t b := Int.gcd_pos_of_ne_zero_right _ (by omega)
  have gl : ((Int.gcd t b : Nat) : Int) ≤ b := Int.le_of_dvd h0 (Int.gcd_dvd_right ..)
  unfold w_fraction
  rintro _ rfl _ rfl
  have hb : (if b < 0 then -b else b) = b := if_neg (by omega)
  have ht : (if t < 0 then -t else t) = (t.natAbs : Int) := by split <;> omega
  rw [hb, ht]
  refine ⟨fun n x y => n = y.toNat ∧ 0 ≤ x ∧ 0 ≤ y ∧ Int.gcd x y = Int.gcd t b, ⟨_, rfl, by omega, by omega, ?_⟩, ?_⟩
  · show Nat.gcd (t.natAbs : Int).natAbs b.natAbs = Nat.gcd t.natAbs b.natAbs
    rw [Int.natAbs_natCast]
  rintro n x y ⟨rfl, hx, hy, hg⟩
  obtain ⟨a, rfl⟩ : ∃ n : Nat, x = (n : Int) := ⟨x.toNat, by omega⟩
  obtain ⟨c, rfl⟩ : ∃ n : Nat, y = (n : Int) := ⟨y.toNat, by omega⟩
  have hg : Nat.gcd a c = Int.gcd t b := hg
  refine ⟨fun hc => ⟨?_, ?_⟩, fun hc => ?_⟩
  · have : ¬ ((c : Int) = 0) := by simpa using hc
    omega
  · have c0 : ¬ ((c : Int) = 0) := by simpa using hc
    rintro _ rfl
    refine ⟨_, ?_, rfl, by omega, Int.emod_nonneg _ c0, ?_⟩
    · have := Int.emod_lt_of_pos (a : Int) (show 0 < (c : Int) by omega)
      have := Int.emod_nonneg (a : Int) c0
      omega
    · rw [← Int.natCast_emod]
      show Nat.gcd c (a % c) = _
      rw [Nat.gcd_comm, ← Nat.gcd_rec, Nat.gcd_comm]; exact hg
  · have c0 : (c : Int) = 0 := by simpa using hc
    have c0 : c = 0 := by omega
    subst c0
    rw [Nat.gcd_zero_right] at hg
    subst hg
    refine ⟨fun z => z = ((Int.gcd t b : Nat) : Int), ⟨fun hb => ?_, fun _ => rfl⟩, ?_⟩
    · have := of_decide_eq_true hb; omega
    · rintro _ rfl
      have g0 : (0 : Int) < ((Int.gcd t b : Nat) : Int) := by omega
      have g1 := Int.lt_of_le_of_lt gl h1
      exact ⟨⟨g0, g1⟩, ⟨g0, g1⟩, q⟩
def Fw_fraction : FS := fun ts R => ∃ (top : Int) (bottom : Int) (P : (Int × Int) → Prop), ts = [(.fz (D.int top)), (.fz (D.int bottom))] ∧ w_fraction top bottom P ∧ ∀ (r : Int × Int), P  r → R [] ((.fz (eF r)))
def F_fraction : FS := fun ts R => ∃ (top : Int) (bottom : Int), ts = [(.fz (D.int top)), (.fz (D.int bottom))] ∧ fracP top bottom ∧ R [] ((.fz (eF (fracF top bottom))))
def b_fraction : DTS := (dSeq (dPar 2 3 (dAConsP (dCB1 (fun y R => absD [y] R) (dVar 0)) (dAConsP (dCB1 (fun y R => absD [y] R) (dVar 1)) dNil)))
    (dSeq (dWhile (dVal (dBin neD true (dVar 3) (dConst (.fz (.int 0))))) (dSeq (dPar 2 3 (dACons (dVar 3) (dAConsP (dBin modD true (dVar 2) (dVar 3)) dNil)))
    dNext))
    (dSeq (dCut (dIf (dVal (dBin (cmpI fun i j => decide (i < j)) true (dVar 1) (dConst (.fz (.int 0))))) (dSeq (dSet 2 (dBin subD true (dConst (.fz (.int 0))) (dVar 2)))
    dNext) dNext))
    (dRet (dCt (dTup (dAConsP (dBin divD true (dVar 0) (dVar 2)) (dAConsP (dBin divD true (dVar 1) (dVar 2)) dNil))))))))
set_option maxHeartbeats 4000000 in
theorem sim_fraction : ∀ ts R, ts.length = 2 → Fw_fraction ts R → b_fraction ⟨fun G => R (G.take 0) (.fz .non), retW 0 R⟩ (ts.map some ++ List.replicate ((["top", "bottom", "one", "other"] : List Str).length - 2) none) := by
  rintro ts R - ⟨top, bottom, P, rfl, h, hR⟩
  unfold w_fraction at h
  unfold b_fraction
  refine q_env (G2 := [some (.fz (D.int top)), some (.fz (D.int bottom)), none, none]) rfl ?_
  obtain ⟨one, e_one, h⟩ := h.get
  obtain ⟨other, e_other, h⟩ := h.get
  refine p_par (d1 := D.int one) (d2 := D.int other) (G' := [some (.fz (D.int top)), some (.fz (D.int bottom)), some (.fz (D.int one)), some (.fz (D.int other))]) (by subst e_one; subst e_other; exact (sa_consP (sp_cb1 (sp_var_fz (i := 0) rfl) rd_fz k_abs) fz_fz (sa_consP (sp_cb1 (sp_var_fz (i := 1) rfl) rd_fz k_abs) fz_fz sa_nil))) (lt_l rfl) (lt_l rfl) rfl ?_
  refine q_while2 (fun (one1 : Int) (other1 : Int) => [some (.fz (D.int top)), some (.fz (D.int bottom)), some (.fz (D.int one1)), some (.fz (D.int other1))]) rfl h (fun one1 other1 P X C D_ h hC hD => ?_) (fun one1 other1 h => ?_)
  · refine (st_val (sp_bin (sp_var_fz (i := 3) rfl) rd_fz sp_con rd_fz (k_ne (a := other1) (b := (0 : Int)) ok_int (Nat.le_of_ble_eq_true rfl))) rd_fz) _ ?_
    refine q_ite (fun hb => ?_) (fun hb => hD _ _ (h.2 hb))
    replace h := h.1 hb
    obtain ⟨q1, h⟩ := h
    obtain ⟨other2, e_other2, h⟩ := h.get
    refine p_par (d1 := D.int other1) (d2 := D.int other2) (G' := [some (.fz (D.int top)), some (.fz (D.int bottom)), some (.fz (D.int other1)), some (.fz (D.int other2))]) (by subst e_other2; exact (sa_cons (sp_var_fz (i := 3) rfl) fz_fz (sa_consP (sp_bin (sp_var_fz (i := 2) rfl) rd_fz (sp_var_fz (i := 3) rfl) rd_fz (k_mod q1)) fz_fz sa_nil))) (lt_l rfl) (lt_l rfl) rfl ?_
    exact hC _ _ h
  refine q_cut1 (fun (one2 : Int) => [some (.fz (D.int top)), some (.fz (D.int bottom)), some (.fz (D.int one2)), some (.fz (D.int other1))]) h (fun j1 h => ?_) (fun one2 h => ?_)
  · refine p_if (st_val (sp_bin (sp_var_fz (i := 1) rfl) rd_fz sp_con rd_fz k_lt) rd_fz) (fun hb => ?_) (fun hb => ?_)
    · replace h := h.1 hb
      refine p_setB (fun x => (.fz (D.int x))) (G' := fun one3 => [some (.fz (D.int top)), some (.fz (D.int bottom)), some (.fz (D.int one3)), some (.fz (D.int other1))]) h (sp_bin sp_con rd_fz (sp_var_fz (i := 2) rfl) rd_fz k_sub) (lt_l rfl) (fun _ => rfl) fun one3 h => ?_
      exact ⟨_, h, rfl⟩
    · replace h := h.2 hb
      exact ⟨_, h, rfl⟩
  obtain ⟨q2, q3, h⟩ := h
  exact p_ret (sp_ct (sp_tup (sa_consP (sp_bin (sp_var_fz (i := 0) rfl) rd_fz (sp_var_fz (i := 2) rfl) rd_fz (k_div q2)) fz_fz (sa_consP (sp_bin (sp_var_fz (i := 1) rfl) rd_fz (sp_var_fz (i := 2) rfl) rd_fz (k_div q3)) fz_fz sa_nil)) rfl (Nat.le_of_ble_eq_true rfl))) (hR _ h)
theorem law_fraction : ∀ ts R, ts.length = 2 → F_fraction ts R → b_fraction ⟨fun G => R (G.take 0) (.fz .non), retW 0 R⟩ (ts.map some ++ List.replicate ((["top", "bottom", "one", "other"] : List Str).length - 2) none) := by
  rintro ts R hl ⟨top, bottom, rfl, hp, q⟩
  exact sim_fraction _ R hl ⟨top, bottom, fun r => r = fracF top bottom, rfl, spec_fraction hp rfl, fun r e => by subst e; exact q⟩
theorem ok_fraction {f : Addr} {fd : FuncData} (Fd : C8.Def K mg "fraction" s_fraction f fd) (bd : Binds K fd ["top", "bottom"] []) (T_abs : mg "abs" = none) : Fn P w K mg base 1 "fraction" 2 0 F_fraction := by
  refine fn_mk (body := b_fraction) Fd bd sc_fraction rfl (by decide) (fun cdv A outer s H E hgd hr => ?_) law_fraction
  have nd := sc_fraction.nd
  have hu64 := hr.units
  have hu65 := hu65 hr
  have hu1 := hu1 hr
  have hu2 := hu2 hr
  have hu0 := hr.units0
  exact (dss_cons (ds_par (i := 2) (j := 3) rfl nd rfl rfl (by decide) rfl rfl (by decide) (by decide) (da_consP (de_cb1 abs_ok (by rfl) T_abs (by decide +kernel) (de_var (pv 0))) (da_consP (de_cb1 abs_ok (by rfl) T_abs (by decide +kernel) (de_var (pv 1))) da_nil)))
    (dss_cons (ds_while PassesOwn.never (dt_cmp (ne_ok hu64) (nomark _) (de_var (pv 3)) de_int) (dss_cons (ds_par (i := 2) (j := 3) rfl nd rfl rfl (by decide) rfl rfl (by decide) (by decide) (da_cons (de_var (pv 3)) (da_consP (de_bin mod_ok (de_var (pv 2)) (de_var (pv 3))) da_nil)))
    dss_nil))
    (dss_cons (ds_cut (ds_if (dt_cmp lt_ok (nomark _) (de_var (pv 1)) de_int) (dss_cons (ds_set (i := 2) nd rfl (.inl rfl) (de_bin sub_ok de_int (de_var (pv 2))) (by decide))
    dss_nil) dss_nil))
    (dss_one (ds_ret (de_ct (de_tup (da_consP (de_bin div_ok (de_var (pv 0)) (de_var (pv 2))) (da_consP (de_bin div_ok (de_var (pv 1)) (de_var (pv 2))) da_nil)))))))))
abbrev s_times : Stmt := topS 11
theorem sc_times : FnScope ["p", "q"] ["p", "q"] (C8.fnScope s_times) := C8.fnScope_by (by decide +kernel)
def w_times (p : Int × Int) (q_v : Int × Int) (Q : (Int × Int) → Prop) : Prop :=
  (mulOk p.1 q_v.1) ∧ (mulOk p.2 q_v.2) ∧ (fracP (p.1 * q_v.1) (p.2 * q_v.2)) ∧ Q (fracF (p.1 * q_v.1) (p.2 * q_v.2))
theorem spec_times {p q : Int × Int} (h : timesP p q) {Q : Int × Int → Prop} (hq : Q (timesF p q)) : w_times p q Q := ⟨h.1.1, h.1.2, h.2, hq⟩
def Fw_times : FS := fun ts R => ∃ (p : Int × Int) (q_v : Int × Int) (P : (Int × Int) → Prop), ts = [(.fz (eF p)), (.fz (eF q_v))] ∧ w_times p q_v P ∧ ∀ (r : Int × Int), P  r → R [] ((.fz (eF r)))
def F_times : FS := fun ts R => ∃ (p : Int × Int) (q_v : Int × Int), ts = [(.fz (eF p)), (.fz (eF q_v))] ∧ timesP p q_v ∧ R [] ((.fz (eF (timesF p q_v))))
def b_times : DTS := (dRet (dCallP 2 F_fraction (dAConsP (dBin mulD true (dBin ixD true (dVar 0) (dConst (.fz (.int 0)))) (dBin ixD true (dVar 1) (dConst (.fz (.int 0))))) (dAConsP (dBin mulD true (dBin ixD true (dVar 0) (dConst (.fz (.int 1)))) (dBin ixD true (dVar 1) (dConst (.fz (.int 1))))) dNil))))
set_option maxHeartbeats 4000000 in
theorem sim_times : ∀ ts R, ts.length = 2 → Fw_times ts R → b_times ⟨fun G => R (G.take 0) (.fz .non), retW 0 R⟩ (ts.map some ++ List.replicate ((["p", "q"] : List Str).length - 2) none) := by
  rintro ts R - ⟨p, q_v, P, rfl, h, hR⟩
  unfold w_times at h
  unfold b_times
  refine q_env (G2 := [some (.fz (eF p)), some (.fz (eF q_v))]) rfl ?_
  obtain ⟨q1, q2, q3, h⟩ := h
  exact p_ret (sp_callP (sa_consP (sp_bin (sp_bin (sp_var_fz (i := 0) rfl) rd_fz sp_con rd_fz k_ixF0) rd_fz (sp_bin (sp_var_fz (i := 1) rfl) rd_fz sp_con rd_fz k_ixF0) rd_fz (k_mul q1)) fz_fz (sa_consP (sp_bin (sp_bin (sp_var_fz (i := 0) rfl) rd_fz sp_con rd_fz k_ixF1) rd_fz (sp_bin (sp_var_fz (i := 1) rfl) rd_fz sp_con rd_fz k_ixF1) rd_fz (k_mul q2)) fz_fz sa_nil)) rfl rfl (fun R hR => ⟨(p.1 * q_v.1), (p.2 * q_v.2), rfl, q3, hR⟩)) (hR _ h)
theorem law_times : ∀ ts R, ts.length = 2 → F_times ts R → b_times ⟨fun G => R (G.take 0) (.fz .non), retW 0 R⟩ (ts.map some ++ List.replicate ((["p", "q"] : List Str).length - 2) none) := by
  rintro ts R hl ⟨p, q_v, rfl, hp, q⟩
  exact sim_times _ R hl ⟨p, q_v, fun r => r = timesF p q_v, rfl, spec_times hp rfl, fun r e => by subst e; exact q⟩
theorem ok_times {f : Addr} {fd : FuncData} (Fd : C8.Def K mg "times" s_times f fd) (bd : Binds K fd ["p", "q"] []) (h_fraction : Fn P w K mg base 1 "fraction" 2 0 F_fraction) : Fn P w K mg base 2 "times" 2 0 F_times := by
  refine fn_mk (body := b_times) Fd bd sc_times rfl (by decide) (fun cdv A outer s H E hgd hr => ?_) law_times
  have nd := sc_times.nd
  have hu64 := hr.units
  have hu65 := hu65 hr
  have hu1 := hu1 hr
  have hu2 := hu2 hr
  have hu0 := hr.units0
  exact (dss_one (ds_ret (de_callP h_fraction hgd hr (by decide) (by rfl) (da_consP (de_bin mul_ok (de_ix hu1 (de_var (pv 0)) de_int (fun _ _ => rfl)) (de_ix hu1 (de_var (pv 1)) de_int (fun _ _ => rfl))) (da_consP (de_bin mul_ok (de_ix hu1 (de_var (pv 0)) de_int (fun _ _ => rfl)) (de_ix hu1 (de_var (pv 1)) de_int (fun _ _ => rfl))) da_nil)))))
abbrev s_minus : Stmt := topS 12
theorem sc_minus : FnScope ["p", "q"] ["p", "q"] (C8.fnScope s_minus) := C8.fnScope_by (by decide +kernel)
def w_minus (p : Int × Int) (q_v : Int × Int) (Q : (Int × Int) → Prop) : Prop :=
  (mulOk p.1 q_v.2) ∧ (mulOk q_v.1 p.2) ∧ (mulOk p.2 q_v.2) ∧ (fracP ((p.1 * q_v.2) - (q_v.1 * p.2)) (p.2 * q_v.2)) ∧ Q (fracF ((p.1 * q_v.2) - (q_v.1 * p.2)) (p.2 * q_v.2))
theorem spec_minus {p q : Int × Int} (h : minusP p q) {Q : Int × Int → Prop} (hq : Q (minusF p q)) : w_minus p q Q := ⟨h.1.1, h.1.2.1, h.1.2.2, h.2, hq⟩
def Fw_minus : FS := fun ts R => ∃ (p : Int × Int) (q_v : Int × Int) (P : (Int × Int) → Prop), ts = [(.fz (eF p)), (.fz (eF q_v))] ∧ w_minus p q_v P ∧ ∀ (r : Int × Int), P  r → R [] ((.fz (eF r)))
def F_minus : FS := fun ts R => ∃ (p : Int × Int) (q_v : Int × Int), ts = [(.fz (eF p)), (.fz (eF q_v))] ∧ minusP p q_v ∧ R [] ((.fz (eF (minusF p q_v))))
def b_minus : DTS := (dRet (dCallP 2 F_fraction (dAConsP (dBin subD true (dBin mulD true (dBin ixD true (dVar 0) (dConst (.fz (.int 0)))) (dBin ixD true (dVar 1) (dConst (.fz (.int 1))))) (dBin mulD true (dBin ixD true (dVar 1) (dConst (.fz (.int 0)))) (dBin ixD true (dVar 0) (dConst (.fz (.int 1)))))) (dAConsP (dBin mulD true (dBin ixD true (dVar 0) (dConst (.fz (.int 1)))) (dBin ixD true (dVar 1) (dConst (.fz (.int 1))))) dNil))))
set_option maxHeartbeats 4000000 in
theorem sim_minus : ∀ ts R, ts.length = 2 → Fw_minus ts R → b_minus ⟨fun G => R (G.take 0) (.fz .non), retW 0 R⟩ (ts.map some ++ List.replicate ((["p", "q"] : List Str).length - 2) none) := by
  rintro ts R - ⟨p, q_v, P, rfl, h, hR⟩
  unfold w_minus at h
  unfold b_minus
  refine q_env (G2 := [some (.fz (eF p)), some (.fz (eF q_v))]) rfl ?_
  obtain ⟨q1, q2, q3, q4, h⟩ := h
  exact p_ret (sp_callP (sa_consP (sp_bin (sp_bin (sp_bin (sp_var_fz (i := 0) rfl) rd_fz sp_con rd_fz k_ixF0) rd_fz (sp_bin (sp_var_fz (i := 1) rfl) rd_fz sp_con rd_fz k_ixF1) rd_fz (k_mul q1)) rd_fz (sp_bin (sp_bin (sp_var_fz (i := 1) rfl) rd_fz sp_con rd_fz k_ixF0) rd_fz (sp_bin (sp_var_fz (i := 0) rfl) rd_fz sp_con rd_fz k_ixF1) rd_fz (k_mul q2)) rd_fz k_sub) fz_fz (sa_consP (sp_bin (sp_bin (sp_var_fz (i := 0) rfl) rd_fz sp_con rd_fz k_ixF1) rd_fz (sp_bin (sp_var_fz (i := 1) rfl) rd_fz sp_con rd_fz k_ixF1) rd_fz (k_mul q3)) fz_fz sa_nil)) rfl rfl (fun R hR => ⟨((p.1 * q_v.2) - (q_v.1 * p.2)), (p.2 * q_v.2), rfl, q4, hR⟩)) (hR _ h)
theorem law_minus : ∀ ts R, ts.length = 2 → F_minus ts R → b_minus ⟨fun G => R (G.take 0) (.fz .non), retW 0 R⟩ (ts.map some ++ List.replicate ((["p", "q"] : List Str).length - 2) none) := by
  rintro ts R hl ⟨p, q_v, rfl, hp, q⟩
  exact sim_minus _ R hl ⟨p, q_v, fun r => r = minusF p q_v, rfl, spec_minus hp rfl, fun r e => by subst e; exact q⟩
theorem ok_minus {f : Addr} {fd : FuncData} (Fd : C8.Def K mg "minus" s_minus f fd) (bd : Binds K fd ["p", "q"] []) (h_fraction : Fn P w K mg base 1 "fraction" 2 0 F_fraction) : Fn P w K mg base 2 "minus" 2 0 F_minus := by
  refine fn_mk (body := b_minus) Fd bd sc_minus rfl (by decide) (fun cdv A outer s H E hgd hr => ?_) law_minus
  have nd := sc_minus.nd
  have hu64 := hr.units
  have hu65 := hu65 hr
  have hu1 := hu1 hr
  have hu2 := hu2 hr
  have hu0 := hr.units0
  exact (dss_one (ds_ret (de_callP h_fraction hgd hr (by decide) (by rfl) (da_consP (de_bin sub_ok (de_bin mul_ok (de_ix hu1 (de_var (pv 0)) de_int (fun _ _ => rfl)) (de_ix hu1 (de_var (pv 1)) de_int (fun _ _ => rfl))) (de_bin mul_ok (de_ix hu1 (de_var (pv 1)) de_int (fun _ _ => rfl)) (de_ix hu1 (de_var (pv 0)) de_int (fun _ _ => rfl)))) (da_consP (de_bin mul_ok (de_ix hu1 (de_var (pv 0)) de_int (fun _ _ => rfl)) (de_ix hu1 (de_var (pv 1)) de_int (fun _ _ => rfl))) da_nil)))))
abbrev s_over : Stmt := topS 13
theorem sc_over : FnScope ["p", "q"] ["p", "q"] (C8.fnScope s_over) := C8.fnScope_by (by decide +kernel)
def w_over (p : Int × Int) (q_v : Int × Int) (Q : (Int × Int) → Prop) : Prop :=
  (mulOk p.1 q_v.2) ∧ (mulOk p.2 q_v.1) ∧ (fracP (p.1 * q_v.2) (p.2 * q_v.1)) ∧ Q (fracF (p.1 * q_v.2) (p.2 * q_v.1))
theorem spec_over {p q : Int × Int} (h : overP p q) {Q : Int × Int → Prop} (hq : Q (overF p q)) : w_over p q Q := ⟨h.1.1, h.1.2, h.2, hq⟩
def Fw_over : FS := fun ts R => ∃ (p : Int × Int) (q_v : Int × Int) (P : (Int × Int) → Prop), ts = [(.fz (eF p)), (.fz (eF q_v))] ∧ w_over p q_v P ∧ ∀ (r : Int × Int), P  r → R [] ((.fz (eF r)))
def F_over : FS := fun ts R => ∃ (p : Int × Int) (q_v : Int × Int), ts = [(.fz (eF p)), (.fz (eF q_v))] ∧ overP p q_v ∧ R [] ((.fz (eF (overF p q_v))))
def b_over : DTS := (dRet (dCallP 2 F_fraction (dAConsP (dBin mulD true (dBin ixD true (dVar 0) (dConst (.fz (.int 0)))) (dBin ixD true (dVar 1) (dConst (.fz (.int 1))))) (dAConsP (dBin mulD true (dBin ixD true (dVar 0) (dConst (.fz (.int 1)))) (dBin ixD true (dVar 1) (dConst (.fz (.int 0))))) dNil))))
set_option maxHeartbeats 4000000 in
theorem sim_over : ∀ ts R, ts.length = 2 → Fw_over ts R → b_over ⟨fun G => R (G.take 0) (.fz .non), retW 0 R⟩ (ts.map some ++ List.replicate ((["p", "q"] : List Str).length - 2) none) := by
  rintro ts R - ⟨p, q_v, P, rfl, h, hR⟩
  unfold w_over at h
  unfold b_over
  refine q_env (G2 := [some (.fz (eF p)), some (.fz (eF q_v))]) rfl ?_
  obtain ⟨q1, q2, q3, h⟩ := h
  exact p_ret (sp_callP (sa_consP (sp_bin (sp_bin (sp_var_fz (i := 0) rfl) rd_fz sp_con rd_fz k_ixF0) rd_fz (sp_bin (sp_var_fz (i := 1) rfl) rd_fz sp_con rd_fz k_ixF1) rd_fz (k_mul q1)) fz_fz (sa_consP (sp_bin (sp_bin (sp_var_fz (i := 0) rfl) rd_fz sp_con rd_fz k_ixF1) rd_fz (sp_bin (sp_var_fz (i := 1) rfl) rd_fz sp_con rd_fz k_ixF0) rd_fz (k_mul q2)) fz_fz sa_nil)) rfl rfl (fun R hR => ⟨(p.1 * q_v.2), (p.2 * q_v.1), rfl, q3, hR⟩)) (hR _ h)
theorem law_over : ∀ ts R, ts.length = 2 → F_over ts R → b_over ⟨fun G => R (G.take 0) (.fz .non), retW 0 R⟩ (ts.map some ++ List.replicate ((["p", "q"] : List Str).length - 2) none) := by
  rintro ts R hl ⟨p, q_v, rfl, hp, q⟩
  exact sim_over _ R hl ⟨p, q_v, fun r => r = overF p q_v, rfl, spec_over hp rfl, fun r e => by subst e; exact q⟩
theorem ok_over {f : Addr} {fd : FuncData} (Fd : C8.Def K mg "over" s_over f fd) (bd : Binds K fd ["p", "q"] []) (h_fraction : Fn P w K mg base 1 "fraction" 2 0 F_fraction) : Fn P w K mg base 2 "over" 2 0 F_over := by
  refine fn_mk (body := b_over) Fd bd sc_over rfl (by decide) (fun cdv A outer s H E hgd hr => ?_) law_over
  have nd := sc_over.nd
  have hu64 := hr.units
  have hu65 := hu65 hr
  have hu1 := hu1 hr
  have hu2 := hu2 hr
  have hu0 := hr.units0
  exact (dss_one (ds_ret (de_callP h_fraction hgd hr (by decide) (by rfl) (da_consP (de_bin mul_ok (de_ix hu1 (de_var (pv 0)) de_int (fun _ _ => rfl)) (de_ix hu1 (de_var (pv 1)) de_int (fun _ _ => rfl))) (da_consP (de_bin mul_ok (de_ix hu1 (de_var (pv 0)) de_int (fun _ _ => rfl)) (de_ix hu1 (de_var (pv 1)) de_int (fun _ _ => rfl))) da_nil)))))
abbrev s_is_below : Stmt := topS 14
theorem sc_is_below : FnScope ["p", "q"] ["p", "q"] (C8.fnScope s_is_below) := C8.fnScope_by (by decide +kernel)
def w_is_below (p : Int × Int) (q_v : Int × Int) (Q : Bool → Prop) : Prop :=
  (mulOk p.1 q_v.2) ∧ (mulOk q_v.1 p.2) ∧ Q (decide (p.1 * q_v.2 < q_v.1 * p.2))
theorem spec_is_below {p q : Int × Int} (h : belowP p q) {Q : Bool → Prop} (hq : Q (belowF p q)) : w_is_below p q Q := ⟨h.1, h.2, hq⟩
def Fw_is_below : FS := fun ts R => ∃ (p : Int × Int) (q_v : Int × Int) (P : Bool → Prop), ts = [(.fz (eF p)), (.fz (eF q_v))] ∧ w_is_below p q_v P ∧ ∀ (r : Bool), P  r → R [] ((.fz (D.bl r)))
def F_is_below : FS := fun ts R => ∃ (p : Int × Int) (q_v : Int × Int), ts = [(.fz (eF p)), (.fz (eF q_v))] ∧ belowP p q_v ∧ R [] ((.fz (D.bl (belowF p q_v))))
def b_is_below : DTS := (dRet (dBin (cmpI fun i j => decide (i < j)) true (dBin mulD true (dBin ixD true (dVar 0) (dConst (.fz (.int 0)))) (dBin ixD true (dVar 1) (dConst (.fz (.int 1))))) (dBin mulD true (dBin ixD true (dVar 1) (dConst (.fz (.int 0)))) (dBin ixD true (dVar 0) (dConst (.fz (.int 1)))))))
set_option maxHeartbeats 4000000 in
theorem sim_is_below : ∀ ts R, ts.length = 2 → Fw_is_below ts R → b_is_below ⟨fun G => R (G.take 0) (.fz .non), retW 0 R⟩ (ts.map some ++ List.replicate ((["p", "q"] : List Str).length - 2) none) := by
  rintro ts R - ⟨p, q_v, P, rfl, h, hR⟩
  unfold w_is_below at h
  unfold b_is_below
  refine q_env (G2 := [some (.fz (eF p)), some (.fz (eF q_v))]) rfl ?_
  obtain ⟨q1, q2, h⟩ := h
  exact p_ret (sp_bin (sp_bin (sp_bin (sp_var_fz (i := 0) rfl) rd_fz sp_con rd_fz k_ixF0) rd_fz (sp_bin (sp_var_fz (i := 1) rfl) rd_fz sp_con rd_fz k_ixF1) rd_fz (k_mul q1)) rd_fz (sp_bin (sp_bin (sp_var_fz (i := 1) rfl) rd_fz sp_con rd_fz k_ixF0) rd_fz (sp_bin (sp_var_fz (i := 0) rfl) rd_fz sp_con rd_fz k_ixF1) rd_fz (k_mul q2)) rd_fz k_lt) (hR _ h)
theorem law_is_below : ∀ ts R, ts.length = 2 → F_is_below ts R → b_is_below ⟨fun G => R (G.take 0) (.fz .non), retW 0 R⟩ (ts.map some ++ List.replicate ((["p", "q"] : List Str).length - 2) none) := by
  rintro ts R hl ⟨p, q_v, rfl, hp, q⟩
  exact sim_is_below _ R hl ⟨p, q_v, fun r => r = belowF p q_v, rfl, spec_is_below hp rfl, fun r e => by subst e; exact q⟩
theorem ok_is_below {f : Addr} {fd : FuncData} (Fd : C8.Def K mg "is_below" s_is_below f fd) (bd : Binds K fd ["p", "q"] []) : Fn P w K mg base 1 "is_below" 2 0 F_is_below := by
  refine fn_mk (body := b_is_below) Fd bd sc_is_below rfl (by decide) (fun cdv A outer s H E hgd hr => ?_) law_is_below
  have nd := sc_is_below.nd
  have hu64 := hr.units
  have hu65 := hu65 hr
  have hu1 := hu1 hr
  have hu2 := hu2 hr
  have hu0 := hr.units0
  exact (dss_one (ds_ret (de_cmp lt_ok (nomark _) (de_bin mul_ok (de_ix hu1 (de_var (pv 0)) de_int (fun _ _ => rfl)) (de_ix hu1 (de_var (pv 1)) de_int (fun _ _ => rfl))) (de_bin mul_ok (de_ix hu1 (de_var (pv 1)) de_int (fun _ _ => rfl)) (de_ix hu1 (de_var (pv 0)) de_int (fun _ _ => rfl))))))
abbrev s_taken_off : Stmt := topS 16
theorem sc_taken_off : FnScope ["row", "rate", "other", "one", "two"] ["row", "rate", "other"] (C8.fnScope s_taken_off) := C8.fnScope_by (by decide +kernel)
def w_taken_off (row : List (Int × Int)) (rate : Int × Int) (other : List (Int × Int)) (Q : (List (Int × Int)) → Prop) : Prop :=
  ((List.zip row other).length ≤ 10000000) ∧ (∀ p ∈ List.zip row other, (timesP rate p.2) ∧ (minusP p.1 (timesF rate p.2))) ∧ Q ((List.zip row other).map (fun p => minusF p.1 (timesF rate p.2)))
theorem spec_taken_off {row : List (Int × Int)} {rate : Int × Int} {other : List (Int × Int)} (h : takenP row rate other) {Q : List (Int × Int) → Prop} (q : Q (takenF row rate other)) : w_taken_off row rate other Q := ⟨h.1, h.2, q⟩
def Fw_taken_off : FS := fun ts R => ∃ (row : List (Int × Int)) (rate : Int × Int) (other : List (Int × Int)) (P : (List (Int × Int)) → Prop), ts = [(.fz ((eL eF) row)), (.fz (eF rate)), (.fz ((eL eF) other))] ∧ w_taken_off row rate other P ∧ ∀ (r : List (Int × Int)), P  r → R [] ((tLs eF r))
def F_taken_off : FS := fun ts R => ∃ (row : List (Int × Int)) (rate : Int × Int) (other : List (Int × Int)), ts = [(.fz ((eL eF) row)), (.fz (eF rate)), (.fz ((eL eF) other))] ∧ takenP row rate other ∧ R [] ((tLs eF (takenF row rate other)))
def b_taken_off : DTS := (dRet (dLc (iZipD (dACons (dVar 0) (dACons (dVar 2) dNil))) (gT 2 (gsCons (gN 3) (gsCons (gN 4) gsNil))) dYes (dCall 2 F_minus (dACons (dVar 3) (dACons (dCall 2 F_times (dACons (dVar 1) (dACons (dVar 4) dNil))) dNil))) [3, 4]))
set_option maxHeartbeats 4000000 in
theorem sim_taken_off : ∀ ts R, ts.length = 3 → Fw_taken_off ts R → b_taken_off ⟨fun G => R (G.take 0) (.fz .non), retW 0 R⟩ (ts.map some ++ List.replicate ((["row", "rate", "other", "one", "two"] : List Str).length - 3) none) := by
  rintro ts R - ⟨row, rate, other, P, rfl, h, hR⟩
  unfold w_taken_off at h
  unfold b_taken_off
  refine q_env (G2 := [some (.fz ((eL eF) row)), some (.fz (eF rate)), some (.fz ((eL eF) other)), none, none]) rfl ?_
  obtain ⟨q1, q4, h⟩ := h
  exact p_ret (sp_lc0 (eP eF eF) (fun p => minusF p.1 (timesF rate p.2)) eF (fun p => [some (.fz ((eL eF) row)), some (.fz (eF rate)), some (.fz ((eL eF) other)), some (.fz (eF p.1)), some (.fz (eF p.2))]) (si_zipL (e := eF) (f := eF) (sa_cons (sp_var_fz (i := 0) rfl) fz_fz (sa_cons (sp_var_fz (i := 2) rfl) fz_fz sa_nil))) q1 (fun p hx => (sg_pair (G' := [some (.fz ((eL eF) row)), some (.fz (eF rate)), some (.fz ((eL eF) other)), some (.fz (eF p.1)), some (.fz (eF p.2))]) (lt_l rfl) (lt_l rfl) rfl)) (fun p hx => (have ⟨q2, q3⟩ := q4 p hx; ⟨_, (sp_call (sa_cons (sp_var_fz (i := 3) rfl) fz_fz (sa_cons (sp_call (sa_cons (sp_var_fz (i := 1) rfl) fz_fz (sa_cons (sp_var_fz (i := 4) rfl) fz_fz sa_nil)) rfl rfl (fun R hR => ⟨rate, p.2, rfl, q2, hR⟩)) fz_fz sa_nil)) rfl rfl (fun R hR => ⟨p.1, (timesF rate p.2), rfl, q3, hR⟩)), fz_fz⟩)) (fun _ => rfl) rfl) (hR _ h)
theorem law_taken_off : ∀ ts R, ts.length = 3 → F_taken_off ts R → b_taken_off ⟨fun G => R (G.take 0) (.fz .non), retW 0 R⟩ (ts.map some ++ List.replicate ((["row", "rate", "other", "one", "two"] : List Str).length - 3) none) := by
  rintro ts R hl ⟨row, rate, other, rfl, hp, q⟩
  exact sim_taken_off _ R hl ⟨row, rate, other, fun r => r = takenF row rate other, rfl, spec_taken_off hp rfl, fun r e => by subst e; exact q⟩
theorem ok_taken_off {f : Addr} {fd : FuncData} (Fd : C8.Def K mg "taken_off" s_taken_off f fd) (bd : Binds K fd ["row", "rate", "other"] []) (h_minus : Fn P w K mg base 2 "minus" 2 0 F_minus) (h_times : Fn P w K mg base 2 "times" 2 0 F_times) (T_zip : mg "zip" = none) : Fn P w K mg base 3 "taken_off" 3 0 F_taken_off := by
  refine fn_mk (body := b_taken_off) Fd bd sc_taken_off rfl (by decide) (fun cdv A outer s H E hgd hr => ?_) law_taken_off
  have nd := sc_taken_off.nd
  have hu64 := hr.units
  have hu65 := hu65 hr
  have hu1 := hu1 hr
  have hu2 := hu2 hr
  have hu0 := hr.units0
  exact (dss_one (ds_ret (de_lc (own := [("one", 3), ("two", 4)]) rfl nd (di_zip (by rfl) T_zip (da_cons (de_var (pv 0)) (da_cons (de_var (pv 2)) da_nil))) (blkOk_by (N := ["row", "rate", "other", "one", "two"]) (sc := C8.fnScope s_taken_off) (by decide +kernel)) (fun _ _ _ _ _ => (dg_tup rfl (dgs_cons (dg_name (i := 3) (pg_name (i := 3) nd rfl (by first | exact .inl rfl | exact .inr rfl)) (fun σ x => wipe_set x (by decide))) (dgs_cons (dg_name (i := 4) (pg_name (i := 4) nd rfl (by first | exact .inl rfl | exact .inr rfl)) (fun σ x => wipe_set x (by decide))) dgs_nil)))) (fun _ _ _ _ _ => dts_nil) (fun _ _ _ _ _ => (de_call h_minus hgd hr (by decide) (by rfl) (da_cons (de_var (pv 3)) (da_cons (de_call h_times hgd hr (by decide) (by rfl) (da_cons (de_var (pv 1)) (da_cons (de_var (pv 4)) da_nil))) da_nil)))))))
abbrev s_Table___init__ : Stmt := inClass (topS 15) 0
theorem sc_Table___init__ : FnScope ["self", "many", "sets", "k", "places", "row", "place", "j"] ["self", "many", "sets"] (C8.fnScope s_Table___init__) := C8.fnScope_by (by decide +kernel)
def w_Table___init__ (many : Int) (sets : List (List Int)) (Q : Tb → Unit → Prop) : Prop :=
  wFor1 (ienum sets) ([] : List (List (Int × Int))) (fun self (p : Int × (List Int)) nx =>
  (-(2 ^ 62) ≤ many ∧ many < 2 ^ 62) ∧ ((irange 0 many).length ≤ 10000000) ∧ (∀ place ∈ irange 0 many, (fracP (if (inl place p.2) = true then (1 : Int) else 0) (1 : Int))) ∧ bnd ((irange 0 many).map (fun place => fracF (if (inl place p.2) = true then (1 : Int) else 0) (1 : Int))) fun row =>
  (-(2 ^ 62) ≤ (sets.length : Int) ∧ (sets.length : Int) < 2 ^ 62) ∧ ((irange 0 (sets.length : Int)).length ≤ 10000000) ∧ (∀ j_v1 ∈ irange 0 (sets.length : Int), (fracP (if (decide (j_v1 = p.1)) = true then (1 : Int) else 0) (1 : Int))) ∧ (row.length + ((irange 0 (sets.length : Int)).map (fun j_v1 => fracF (if (decide (j_v1 = p.1)) = true then (1 : Int) else 0) (1 : Int))).length ≤ 10000000) ∧ ((row ++ ((irange 0 (sets.length : Int)).map (fun j_v1 => fracF (if (decide (j_v1 = p.1)) = true then (1 : Int) else 0) (1 : Int)))).length + [((1, 1) : Int × Int)].length ≤ 10000000) ∧ bnd ((row ++ ((irange 0 (sets.length : Int)).map (fun j_v1 => fracF (if (decide (j_v1 = p.1)) = true then (1 : Int) else 0) (1 : Int)))) ++ [((1, 1) : Int × Int)]) fun row1 =>
  (self.length < 10000000) ∧ bnd (self ++ [row1]) fun rows1 =>
  nx rows1)
  (fun (self : List (List (Int × Int))) => (-(2 ^ 63) ≤ many ∧ many ≤ 10000000) ∧ (-(2 ^ 63) ≤ (sets.length : Int) + (1 : Int) ∧ (sets.length : Int) + (1 : Int) ≤ 10000000) ∧ ((List.replicate (many).toNat (-(1 : Int), (1 : Int))).length + (List.replicate ((sets.length : Int) + (1 : Int)).toNat ((0, 1) : Int × Int)).length ≤ 10000000) ∧ bnd ((List.replicate (many).toNat (-(1 : Int), (1 : Int))) ++ (List.replicate ((sets.length : Int) + (1 : Int)).toNat ((0, 1) : Int × Int))) fun last =>
  (-(2 ^ 62) ≤ (sets.length : Int) ∧ (sets.length : Int) < 2 ^ 62) ∧ ((irange 0 (sets.length : Int)).length ≤ 10000000) ∧ Q (⟨many, self, last, (irange 0 (sets.length : Int)).map (fun k => many + k)⟩ : Tb) ())
def inA (sets : List (List Int)) (j p : Nat) : Bool := inl (p : Int) (gi sets (j : Int))
theorem spec_Table___init__ {n : Nat} {sets : List (List Int)} {Q : Tb → Unit → Prop} (hn : n ≤ 1000) (hm : sets.length ≤ 2000000) (q : Q (Sx.mkTb n sets.length (Sx.fstR n sets.length (inA sets)) (Sx.fstL n sets.length) fun j => n + j) ()) : w_Table___init__ (n : Int) sets Q := by
  unfold w_Table___init__
  have ln : (irange 0 (n : Int)).length = n := Sx.irange_nat_len n
  have lm : (irange 0 (sets.length : Int)).length = sets.length := Sx.irange_nat_len _
  refine wFor1_inv (fun pre self => self = (List.range pre.length).map fun j => Sx.rowT (n + sets.length) (Sx.fstR n sets.length (inA sets) j)) rfl ?_ ?_
  · rintro _ rfl
    rw [ienum_length]
    refine ⟨by omega, by omega, by simp; omega, ?_⟩
    rintro _ rfl
    refine ⟨by omega, by omega, ?_⟩
    unfold Sx.mkTb at q
    rw [Sx.fst_lastT] at q
    rw [Sx.fst_held]
    exact q
  · rintro pre x post _ C e rfl c
    obtain ⟨h1, h2, h3⟩ := ienum_at e
    refine ⟨by omega, by omega, fun _ _ => Sx.fracP_01 _, ?_⟩
    rintro _ rfl
    refine ⟨by omega, by omega, fun _ _ => Sx.fracP_01 _, by simp; omega, by simp; omega, ?_⟩
    rintro _ rfl
    refine ⟨by simp; omega, ?_⟩
    rintro _ rfl
    refine c _ ?_
    rw [List.length_append, List.length_singleton, List.range_succ, List.map_append, List.map_singleton]
    congr 2
    rw [h2]
    refine (Sx.fst_row (fun place => inl place x.2) fun v _ => ?_).symm
    unfold inA
    rw [gi_nat h1]
    rw [List.getElem?_eq_getElem h1] at h3
    rw [Option.some.inj h3]
def F_Table___init__ (mg : Str → Option Value) : FS := fun ts R => ∃ (many : Int) (sets : List (List Int)) (P : Tb → Unit → Prop), ts = [(.ins (clsOf mg "Table") []), (.fz (D.int many)), (.fz ((eL (eU D.int)) sets))] ∧ w_Table___init__ many sets P ∧ ∀ (self_ : Tb) (r : Unit), P self_ r → R [some (self_.T (clsOf mg "Table"))] ((.fz (eN r)))
def b_Table___init__ (mg : Str → Option Value) : DTS := (dSeq (dFPutZ (clsOf mg "Table") 0 "many" (dVar 1))
    (dSeq (dFPut (clsOf mg "Table") 0 "rows" (dLst dNil))
    (dSeq (dFor (iEnumD (dACons (dVar 2) dNil)) (gT 2 (gsCons (gN 3) (gsCons (gN 4) gsNil))) (dSeq (dSet 5 (dLc (iRange1 (dACons (dVar 1) dNil)) (gN 6) dYes (dCallP 2 F_fraction (dAConsP (dCB1 (fun y R => intD [y] R) (dBin (inD false) true (dVar 6) (dVar 4))) (dAConsP (dConst (.fz (.int 1))) dNil))) [6]))
    (dSeq (dFrz 5) (dSeq (dSet 5 (dBin addD false (dBin addD false (dVar 5) (dLc (iRange1 (dAConsP (dCB1 (fun y R => lenD [y] R) (dVar 2)) dNil)) (gN 7) dYes (dCallP 2 F_fraction (dAConsP (dCB1 (fun y R => intD [y] R) (dBin eqD true (dVar 7) (dVar 3))) (dAConsP (dConst (.fz (.int 1))) dNil))) [7])) (dLst (dACons (dConst (.fz (.ctup [.int (1), .int (1)]))) dNil))))
    (dSeq (dFrz 5) (dSeq (dExpr (dMeth "list" appendN true (dFld (clsOf mg "Table") 0 "rows") (dAConsP (dVar 5) dNil)))
    (dSeq (dKill [3, 4, 5]) dNext)))))))
    (dSeq (dFPutZ (clsOf mg "Table") 0 "last" (dBin addD false (dBin mulD true (dLst (dAConsP (dCt (dTup (dAConsP (dUn negD (dConst (.fz (.int 1)))) (dAConsP (dConst (.fz (.int 1))) dNil)))) dNil)) (dVar 1)) (dBin mulD true (dLst (dACons (dConst (.fz (.ctup [.int (0), .int (1)]))) dNil)) (dBin addD true (dCB1 (fun y R => lenD [y] R) (dVar 2)) (dConst (.fz (.int 1)))))))
    (dSeq (dFPut (clsOf mg "Table") 0 "held" (dLc (iRange1 (dAConsP (dCB1 (fun y R => lenD [y] R) (dVar 2)) dNil)) (gN 3) dYes (dBin addD true (dVar 1) (dVar 3)) [3]))
    dNext)))))
set_option maxHeartbeats 4000000 in
theorem law_Table___init__ (mg : Str → Option Value) : ∀ ts R, ts.length = 3 → F_Table___init__ mg ts R → b_Table___init__ mg ⟨fun G => R (G.take 1) (.fz .non), retW 1 R⟩ (ts.map some ++ List.replicate ((["self", "many", "sets", "k", "places", "row", "place", "j"] : List Str).length - 3) none) := by
  rintro ts R - ⟨many, sets, P, rfl, h, hR⟩
  unfold w_Table___init__ at h
  unfold b_Table___init__
  refine q_env (G2 := [some (.ins (clsOf mg "Table") []), some (.fz (D.int many)), some (.fz ((eL (eU D.int)) sets)), none, none, none, none, none]) rfl ?_
  refine q_fputZ ?_
  refine (sp_var_fz (i := 1) rfl) _ ?_
  refine w_fputZ (i := 0) rfl fz_fz pf_n (Nat.le_of_ble_eq_true rfl) (G' := [some (.ins (clsOf mg "Table") [("many", (.fz (D.int many)))]), some (.fz (D.int many)), some (.fz ((eL (eU D.int)) sets)), none, none, none, none, none]) rfl ?_
  refine p_fput (i := 0) rfl (sp_lst sa_nil rfl (Nat.le_of_ble_eq_true rfl)) (pf_s (by decide +kernel) pf_n) (Nat.le_of_ble_eq_true rfl) (G' := [some (.ins (clsOf mg "Table") [("many", (.fz (D.int many))), ("rows", (tLs (eL eF) ([] : List (List (Int × Int)))))]), some (.fz (D.int many)), some (.fz ((eL (eU D.int)) sets)), none, none, none, none, none]) rfl ?_
  refine q_for1 (eP D.int (eU D.int)) (fun (self : List (List (Int × Int))) => [some (.ins (clsOf mg "Table") [("many", (.fz (D.int many))), ("rows", (tLs (eL eF) self))]), some (.fz (D.int many)), some (.fz ((eL (eU D.int)) sets)), none, none, none, none, none]) (si_enum (e := (eU D.int)) (sa_cons (sp_var_fz (i := 2) rfl) fz_fz sa_nil)) rfl h (fun self p P C h hC => ?_) (fun self h => ?_)
  · refine (sg_pair (G' := [some (.ins (clsOf mg "Table") [("many", (.fz (D.int many))), ("rows", (tLs (eL eF) self))]), some (.fz (D.int many)), some (.fz ((eL (eU D.int)) sets)), some (.fz (D.int p.1)), some (.fz ((eU D.int) p.2)), none, none, none]) (lt_l rfl) (lt_l rfl) rfl) _ ?_
    obtain ⟨q1, q2, q4, h⟩ := h
    refine p_setB (fun x => (tLs eF x)) (G' := fun row => [some (.ins (clsOf mg "Table") [("many", (.fz (D.int many))), ("rows", (tLs (eL eF) self))]), some (.fz (D.int many)), some (.fz ((eL (eU D.int)) sets)), some (.fz (D.int p.1)), some (.fz ((eU D.int) p.2)), some (tLs eF row), none, none]) h (sp_lc0 D.int (fun place => fracF (if (inl place p.2) = true then (1 : Int) else 0) (1 : Int)) eF (fun place => [some (.ins (clsOf mg "Table") [("many", (.fz (D.int many))), ("rows", (tLs (eL eF) self))]), some (.fz (D.int many)), some (.fz ((eL (eU D.int)) sets)), some (.fz (D.int p.1)), some (.fz ((eU D.int) p.2)), none, some (.fz (D.int place)), none]) (si_range1 (sa_cons (sp_var_fz (i := 1) rfl) fz_fz sa_nil) q1) q2 (fun place hx => (sg_name (G' := [some (.ins (clsOf mg "Table") [("many", (.fz (D.int many))), ("rows", (tLs (eL eF) self))]), some (.fz (D.int many)), some (.fz ((eL (eU D.int)) sets)), some (.fz (D.int p.1)), some (.fz ((eU D.int) p.2)), none, some (.fz (D.int place)), none]) (lt_l rfl) rfl)) (fun place hx => (have q3 := q4 place hx; ⟨_, (sp_callP (sa_consP (sp_cb1 (sp_bin (sp_var_fz (i := 6) rfl) rd_fz (sp_var_fz (i := 4) rfl) rd_fz (k_inU (a := place) (l := p.2) ok_int (Nat.le_of_ble_eq_true rfl))) rd_fz k_intB) fz_fz (sa_consP sp_con fz_fz sa_nil)) rfl rfl (fun R hR => ⟨(if (inl place p.2) = true then (1 : Int) else 0), (1 : Int), rfl, q3, hR⟩)), fz_fz⟩)) (fun _ => rfl) rfl) (lt_l rfl) (fun _ => rfl) fun row h => ?_
    refine p_frz (i := 5) (G' := [some (.ins (clsOf mg "Table") [("many", (.fz (D.int many))), ("rows", (tLs (eL eF) self))]), some (.fz (D.int many)), some (.fz ((eL (eU D.int)) sets)), some (.fz (D.int p.1)), some (.fz ((eU D.int) p.2)), some (.fz ((eL eF) row)), none, none]) rfl rfl rfl ?_
    obtain ⟨q10, q11, q13, q14, q15, h⟩ := h
    refine p_setB (fun x => (tLs eF x)) (G' := fun row1 => [some (.ins (clsOf mg "Table") [("many", (.fz (D.int many))), ("rows", (tLs (eL eF) self))]), some (.fz (D.int many)), some (.fz ((eL (eU D.int)) sets)), some (.fz (D.int p.1)), some (.fz ((eU D.int) p.2)), some (tLs eF row1), none, none]) h (sp_binF (sp_binF (sp_var_fz (i := 5) rfl) fz_fz (sp_lc0 D.int (fun j_v1 => fracF (if (decide (j_v1 = p.1)) = true then (1 : Int) else 0) (1 : Int)) eF (fun j_v1 => [some (.ins (clsOf mg "Table") [("many", (.fz (D.int many))), ("rows", (tLs (eL eF) self))]), some (.fz (D.int many)), some (.fz ((eL (eU D.int)) sets)), some (.fz (D.int p.1)), some (.fz ((eU D.int) p.2)), some (.fz ((eL eF) row)), none, some (.fz (D.int j_v1))]) (si_range1 (sa_consP (sp_cb1 (sp_var_fz (i := 2) rfl) rd_fz (k_lenL (e := (eU D.int)))) fz_fz sa_nil) q10) q11 (fun j_v1 hx => (sg_name (G' := [some (.ins (clsOf mg "Table") [("many", (.fz (D.int many))), ("rows", (tLs (eL eF) self))]), some (.fz (D.int many)), some (.fz ((eL (eU D.int)) sets)), some (.fz (D.int p.1)), some (.fz ((eU D.int) p.2)), some (.fz ((eL eF) row)), none, some (.fz (D.int j_v1))]) (lt_l rfl) rfl)) (fun j_v1 hx => (have q12 := q13 j_v1 hx; ⟨_, (sp_callP (sa_consP (sp_cb1 (sp_bin (sp_var_fz (i := 7) rfl) rd_fz (sp_var_fz (i := 3) rfl) rd_fz (k_eq (a := j_v1) (b := p.1) ok_int (Nat.le_of_ble_eq_true rfl))) rd_fz k_intB) fz_fz (sa_consP sp_con fz_fz sa_nil)) rfl rfl (fun R hR => ⟨(if (decide (j_v1 = p.1)) = true then (1 : Int) else 0), (1 : Int), rfl, q12, hR⟩)), fz_fz⟩)) (fun _ => rfl) rfl) rd_ls (k_catL (e := eF) q14)) fz_ls (sp_lst (sa_cons sp_con fz_fz sa_nil) rfl (Nat.le_of_ble_eq_true rfl)) rd_ls (k_catL (e := eF) q15)) (lt_l rfl) (fun _ => rfl) fun row1 h => ?_
    refine p_frz (i := 5) (G' := [some (.ins (clsOf mg "Table") [("many", (.fz (D.int many))), ("rows", (tLs (eL eF) self))]), some (.fz (D.int many)), some (.fz ((eL (eU D.int)) sets)), some (.fz (D.int p.1)), some (.fz ((eU D.int) p.2)), some (.fz ((eL eF) row1)), none, none]) rfl rfl rfl ?_
    obtain ⟨q17, h⟩ := h
    obtain ⟨rows1, e_rows1, h⟩ := h.get
    refine p_fapp (e := (eL eF)) (x := row1) rfl (lk_s (by decide +kernel) lk_0) (sa_consP (sp_var_fz (i := 5) rfl) fz_fz sa_nil) q17 (setL_s (by decide +kernel) setL_0) (G' := [some (.ins (clsOf mg "Table") [("many", (.fz (D.int many))), ("rows", (tLs (eL eF) rows1))]), some (.fz (D.int many)), some (.fz ((eL (eU D.int)) sets)), some (.fz (D.int p.1)), some (.fz ((eU D.int) p.2)), some (.fz ((eL eF) row1)), none, none]) (by subst e_rows1; rfl) ?_
    refine p_kill (G' := [some (.ins (clsOf mg "Table") [("many", (.fz (D.int many))), ("rows", (tLs (eL eF) rows1))]), some (.fz (D.int many)), some (.fz ((eL (eU D.int)) sets)), none, none, none, none, none]) rfl ?_
    exact hC _ h
  refine q_fputZ ?_
  obtain ⟨q18, q19, q20, h⟩ := h
  refine (sp_binF (sp_bin (sp_lst (sa_consP (sp_ct (sp_tup (sa_consP (sp_un sp_con rd_fz k_neg) fz_fz (sa_consP sp_con fz_fz sa_nil)) rfl (Nat.le_of_ble_eq_true rfl))) fz_fz sa_nil) rfl (Nat.le_of_ble_eq_true rfl)) rd_ls (sp_var_fz (i := 1) rfl) rd_fz (k_rep1 (e := eF) q18)) fz_ls (sp_bin (sp_lst (sa_cons sp_con fz_fz sa_nil) rfl (Nat.le_of_ble_eq_true rfl)) rd_ls (sp_bin (sp_cb1 (sp_var_fz (i := 2) rfl) rd_fz (k_lenL (e := (eU D.int)))) rd_fz sp_con rd_fz k_add) rd_fz (k_rep1 (e := eF) q19)) rd_ls (k_catL (e := eF) q20)) _ ?_
  obtain ⟨last, e_last, h⟩ := h.get
  refine w_fputZ (i := 0) rfl fz_ls (pf_s (by decide +kernel) (pf_s (by decide +kernel) pf_n)) (Nat.le_of_ble_eq_true rfl) (G' := [some (.ins (clsOf mg "Table") [("many", (.fz (D.int many))), ("rows", (tLs (eL eF) self)), ("last", (.fz ((eL eF) last)))]), some (.fz (D.int many)), some (.fz ((eL (eU D.int)) sets)), none, none, none, none, none]) (by subst e_last; rfl) ?_
  obtain ⟨q21, q22, h⟩ := h
  refine p_fput (i := 0) rfl (sp_lc0 D.int (fun k => many + k) D.int (fun k => [some (.ins (clsOf mg "Table") [("many", (.fz (D.int many))), ("rows", (tLs (eL eF) self)), ("last", (.fz ((eL eF) last)))]), some (.fz (D.int many)), some (.fz ((eL (eU D.int)) sets)), some (.fz (D.int k)), none, none, none, none]) (si_range1 (sa_consP (sp_cb1 (sp_var_fz (i := 2) rfl) rd_fz (k_lenL (e := (eU D.int)))) fz_fz sa_nil) q21) q22 (fun k hx => (sg_name (G' := [some (.ins (clsOf mg "Table") [("many", (.fz (D.int many))), ("rows", (tLs (eL eF) self)), ("last", (.fz ((eL eF) last)))]), some (.fz (D.int many)), some (.fz ((eL (eU D.int)) sets)), some (.fz (D.int k)), none, none, none, none]) (lt_l rfl) rfl)) (fun k hx => ⟨_, (sp_bin (sp_var_fz (i := 1) rfl) rd_fz (sp_var_fz (i := 3) rfl) rd_fz k_add), fz_fz⟩) (fun _ => rfl) rfl) (pf_s (by decide +kernel) (pf_s (by decide +kernel) (pf_s (by decide +kernel) pf_n))) (Nat.le_of_ble_eq_true rfl) (G' := [some ((⟨many, self, last, (irange 0 (sets.length : Int)).map (fun k => many + k)⟩ : Tb).T (clsOf mg "Table")), some (.fz (D.int many)), some (.fz ((eL (eU D.int)) sets)), none, none, none, none, none]) rfl ?_
  exact hR _ _ h
theorem ok_Table___init__ {f C : Addr} {fd : FuncData} (hm : mg "Table" = some (.ref C)) (M : Mk K C f) (Fd : C8.Fun K "__init__" "Table.__init__" s_Table___init__ f fd) (bd : Binds K fd ["self", "many", "sets"] []) (h_fraction : Fn P w K mg base 1 "fraction" 2 0 F_fraction) (L_Table_many : Fld K mg "Table" "many") (L_Table_rows : Fld K mg "Table" "rows") (L_Table_last : Fld K mg "Table" "last") (L_Table_held : Fld K mg "Table" "held") (T_NONE : KPr K mg "NONE" (0) (1)) (T_ONE : KPr K mg "ONE" (1) (1)) (T_enumerate : mg "enumerate" = none) (T_int : mg "int" = none) (T_len : mg "len" = none) (T_range : mg "range" = none) : Ini P w K mg base 2 "Table" 3 (F_Table___init__ mg) := by
  refine ini_mk (body := b_Table___init__ mg) hm M Fd bd sc_Table___init__ rfl (by decide) (fun cdv A outer s H E hgd hr => ?_) (law_Table___init__ mg)
  have nd := sc_Table___init__.nd
  have hu64 := hr.units
  have hu65 := hu65 hr
  have hu1 := hu1 hr
  have hu2 := hu2 hr
  have hu0 := hr.units0
  exact (dss_cons (ds_fputZ L_Table_many (pv 0) (de_var (pv 1)))
    (dss_cons (ds_fput L_Table_rows (pv 0) (de_lst da_nil))
    (dss_cons (ds_for PassesOwn.never rfl (di_enum (by rfl) T_enumerate (da_cons (de_var (pv 2)) da_nil)) (dg_tup rfl (dgs_cons (dg_name (i := 3) (pg_name (i := 3) nd rfl (.inr rfl)) (fun _ _ => take_set (by decide))) (dgs_cons (dg_name (i := 4) (pg_name (i := 4) nd rfl (.inr rfl)) (fun _ _ => take_set (by decide))) dgs_nil))) (dss_cons (ds_setLc (i := 5) (own := [("place", 6)]) rfl nd rfl rfl (sw_true rfl rfl rfl (by decide +kernel)) (by decide) (di_range1 (by rfl) T_range (da_cons (de_var (pv 1)) da_nil)) (blkOk_by (N := ["self", "many", "sets", "k", "places", "row", "place", "j"]) (sc := C8.fnScope s_Table___init__) (by decide +kernel)) (fun _ _ _ _ _ => (dg_name (i := 6) (pg_name (i := 6) nd rfl (by first | exact .inl rfl | exact .inr rfl)) (fun σ x => wipe_set x (by decide)))) (fun _ _ _ _ _ => dts_nil) (fun _ _ _ _ _ => (de_callP h_fraction hgd hr (by decide) (by rfl) (da_consP (de_ct1 int_ok (by rfl) T_int (by decide +kernel) (de_cmp (in_ok hu65) rfl (de_var (pv 6)) (de_var (pv 4)))) (da_consP de_int da_nil)))))
    (dss_frz 5 (dss_cons (ds_set (i := 5) nd rfl (.inl rfl) (de_bin add_ok (de_bin add_ok (de_var (pv 5)) (de_lc (own := [("j", 7)]) rfl nd (di_range1 (by rfl) T_range (da_consP (de_cb1 len_ok (by rfl) T_len (by decide +kernel) (de_var (pv 2))) da_nil)) (blkOk_by (N := ["self", "many", "sets", "k", "places", "row", "place", "j"]) (sc := C8.fnScope s_Table___init__) (by decide +kernel)) (fun _ _ _ _ _ => (dg_name (i := 7) (pg_name (i := 7) nd rfl (by first | exact .inl rfl | exact .inr rfl)) (fun σ x => wipe_set x (by decide)))) (fun _ _ _ _ _ => dts_nil) (fun _ _ _ _ _ => (de_callP h_fraction hgd hr (by decide) (by rfl) (da_consP (de_ct1 int_ok (by rfl) T_int (by decide +kernel) (de_cmp (eq_ok hu64) (nomark _) (de_var (pv 7)) (de_var (pv 3)))) (da_consP de_int da_nil)))))) (de_lst (da_cons (de_kt (by rfl) T_ONE) da_nil))) (by decide))
    (dss_frz 5 (dss_cons (ds_expr (de_meth (by decide) PySem.F.plainAttrs_list PySem.F.slot_list_append PySem.F.type_list_append append_ok (de_fld L_Table_rows (pv 0)) (da_consP (de_var (pv 5)) da_nil)))
    (dss_kill [3, 4, 5] dss_nil)))))))
    (dss_cons (ds_fputZ L_Table_last (pv 0) (de_bin add_ok (de_bin mul_ok (de_lst (da_consP (de_ct (de_tup (da_consP (de_un neg_ok de_int) (da_consP de_int da_nil)))) da_nil)) (de_var (pv 1))) (de_bin mul_ok (de_lst (da_cons (de_kt (by rfl) T_NONE) da_nil)) (de_bin add_ok (de_cb1 len_ok (by rfl) T_len (by decide +kernel) (de_var (pv 2))) de_int))))
    (dss_cons (ds_fput L_Table_held (pv 0) (de_lc (own := [("k", 3)]) rfl nd (di_range1 (by rfl) T_range (da_consP (de_cb1 len_ok (by rfl) T_len (by decide +kernel) (de_var (pv 2))) da_nil)) (blkOk_by (N := ["self", "many", "sets", "k", "places", "row", "place", "j"]) (sc := C8.fnScope s_Table___init__) (by decide +kernel)) (fun _ _ _ _ _ => (dg_name (i := 3) (pg_name (i := 3) nd rfl (by first | exact .inl rfl | exact .inr rfl)) (fun σ x => wipe_set x (by decide)))) (fun _ _ _ _ _ => dts_nil) (fun _ _ _ _ _ => (de_bin add_ok (de_var (pv 1)) (de_var (pv 3))))))
    dss_nil)))))
abbrev s_Table_leaving : Stmt := inClass (topS 15) 1
theorem sc_Table_leaving : FnScope ["self", "column", "found", "k", "row", "rate"] ["self", "column"] (C8.fnScope s_Table_leaving) := C8.fnScope_by (by decide +kernel)
def w_Table_leaving (self : Tb) (column : Int) (Q : Tb → Int → Prop) : Prop :=
  wFor1 (ienum self.rows) (none : Option ((Int × Int) × Int × Int)) (fun found (p : Int × (List (Int × Int))) nx =>
  wJ1 (fun j2 =>
  (InR p.2 column) ∧ wIf (decide ((0 : Int) < (gi p.2 column).1))
  ((InR p.2 (-(1 : Int))) ∧ (InR p.2 column) ∧ (overP (gi p.2 (-(1 : Int))) (gi p.2 column)) ∧ (InR self.held p.1) ∧ bnd ((overF (gi p.2 (-(1 : Int))) (gi p.2 column), gi self.held p.1, p.1)) fun rate =>
  wJ1 (fun j3 =>
  (found.isNone = false → (found.isSome = true) ∧ (belowP rate.1 ((found.getD default).1)) ∧ ((belowF rate.1 ((found.getD default).1)) = false → (found.isSome = true) ∧ ((decide (rate.1 = (found.getD default).1)) = true → (found.isSome = true)))) ∧ wIf (found.isNone || ((belowF rate.1 ((found.getD default).1)) || ((decide (rate.1 = (found.getD default).1)) && (decide (rate.2.1 < (found.getD default).2.1)))))
  (j3 (some rate))
  (j3 found))
  (fun (found2 : Option ((Int × Int) × Int × Int)) => j2 found2))
  (j2 found))
  (fun (found1 : Option ((Int × Int) × Int × Int)) => nx found1))
  (fun (found : Option ((Int × Int) × Int × Int)) => (found.isSome = true) ∧ Q self ((found.getD default).2.2))
theorem spec_Table_leaving {n m : Nat} {R : Nat → Nat → Rat} {L : Nat → Rat} {H : Nat → Nat} {c : Nat} {Q : Tb → Int → Prop} (hc : c < n + m) (sm : ∀ j < m, ∀ v, Sx.Sm 300 (R j v)) (inj : ∀ i < m, ∀ j < m, H i = H j → i = j) (ex : ∃ k < m, 0 < R k c)
    (q : ∀ k : Nat, k < m → 0 < R k c → (∀ j < m, 0 < R j c → R k (n + m) / R k c < R j (n + m) / R j c ∨ (R k (n + m) / R k c = R j (n + m) / R j c ∧ H k ≤ H j)) → Q (Sx.mkTb n m R L H) (k : Int)) : w_Table_leaving (Sx.mkTb n m R L H) (c : Int) Q := by
  unfold w_Table_leaving
  refine wFor1_inv (fun pre found => (found = none ∧ ∀ j < pre.length, ¬ 0 < R j c) ∨ ∃ k < pre.length, k < m ∧ 0 < R k c ∧ found = some (qF (R k (n + m) / R k c), ((H k : Nat) : Int), (k : Int)) ∧ ∀ j < pre.length, 0 < R j c → R k (n + m) / R k c < R j (n + m) / R j c ∨ (R k (n + m) / R k c = R j (n + m) / R j c ∧ H k ≤ H j)) (.inl ⟨rfl, fun j hj => absurd hj (Nat.not_lt_zero j)⟩) ?_ ?_
  · intro found I
    rw [ienum_length, Sx.tb_rows_len] at I
    rcases I with ⟨rfl, no⟩ | ⟨k, hk, _, p, rfl, b⟩
    · obtain ⟨k, hk, p⟩ := ex; exact absurd p (no k hk)
    · exact ⟨rfl, q k hk p b⟩
  · rintro pre x post found C e I cc
    obtain ⟨h1, h2, h3⟩ := ienum_at e
    rw [Sx.tb_rows_len] at h1
    have ex2 : x.2 = Sx.rowT (n + m) (R pre.length) := by
      have g := Sx.tb_row (n := n) (R := R) (L := L) (H := H) h1
      rw [gi_nat (by rw [Sx.tb_rows_len]; exact h1)] at g
      rw [List.getElem?_eq_getElem (by rw [Sx.tb_rows_len]; exact h1)] at h3
      rw [← Option.some.inj h3, g]
    rw [ex2, h2]
    have eg : gi (Sx.rowT (n + m) (R pre.length)) (c : Int) = qF (R pre.length c) := Sx.rowT_gi (by omega)
    rw [eg, Sx.rowT_last, Sx.tb_held h1]
    have up : ∀ {P : Nat → Prop}, (∀ j < pre.length, P j) → P pre.length → ∀ j < (pre ++ [x]).length, P j := fun a b j hj => by
      rw [List.length_append, List.length_singleton] at hj
      by_cases z : j = pre.length
      · rw [z]; exact b
      · exact a j (by omega)
    have lp : pre.length < (pre ++ [x]).length := by simp
    refine wJ1.mk ⟨Sx.rowT_in (by omega), ⟨fun hb => ?_, fun hb => ?_⟩⟩
    · have p : 0 < R pre.length c := Sx.num_pos_iff.mp (of_decide_eq_true hb)
      have s1 := sm _ h1 (n + m)
      have s2 := sm _ h1 c
      refine ⟨Sx.rowT_inL, Sx.rowT_in (by omega), Sx.overP_sm s1 s2 (by omega) p, by unfold InR; rw [Sx.tb_held_len]; omega, ?_⟩
      rintro _ rfl
      rw [overF_q p]
      have s3 := s1.div s2 p
      refine wJ1.mk ⟨fun hn => ?_, ⟨fun hb => ?_, fun hb => ?_⟩⟩
      · rcases I with ⟨rfl, no⟩ | ⟨k, hk, hkm, pk, rfl, b⟩
        · cases hn
        · have s4 := (sm _ hkm (n + m)).div (sm _ hkm c) pk
          exact ⟨rfl, Sx.belowP_sm s3 s4 (by omega) (by omega), fun _ => ⟨rfl, fun _ => rfl⟩⟩
      · refine cc _ (.inr ⟨pre.length, lp, h1, p, rfl, ?_⟩)
        rcases I with ⟨rfl, no⟩ | ⟨k, hk, hkm, pk, rfl, b⟩
        · exact up (fun j hj pj => absurd pj (no j hj)) fun _ => .inr ⟨rfl, Nat.le_refl _⟩
        · have hb : (belowF (qF (R pre.length (n + m) / R pre.length c)) (qF (R k (n + m) / R k c)) || (decide (qF (R pre.length (n + m) / R pre.length c) = qF (R k (n + m) / R k c)) && decide (((H pre.length : Nat) : Int) < ((H k : Nat) : Int)))) = true := hb
          rw [Sx.belowF_q, Bool.or_eq_true, Bool.and_eq_true, decide_eq_true_eq, decide_eq_true_eq, decide_eq_true_eq] at hb
          refine up (fun j hj pj => ?_) fun _ => .inr ⟨rfl, Nat.le_refl _⟩
          rcases hb with hb | ⟨hb, hb2⟩
          · rcases b j hj pj with r | ⟨r, _⟩
            · exact .inl (by grind)
            · exact .inl (by grind)
          · have hb := Sx.qF_inj hb
            rcases b j hj pj with r | ⟨r, r2⟩
            · exact .inl (by grind)
            · exact .inr ⟨by grind, by omega⟩
      · rcases I with ⟨rfl, no⟩ | ⟨k, hk, hkm, pk, rfl, b⟩
        · cases hb
        · have hb : (belowF (qF (R pre.length (n + m) / R pre.length c)) (qF (R k (n + m) / R k c)) || (decide (qF (R pre.length (n + m) / R pre.length c) = qF (R k (n + m) / R k c)) && decide (((H pre.length : Nat) : Int) < ((H k : Nat) : Int)))) = false := hb
          rw [Sx.belowF_q, Bool.or_eq_false_iff, Bool.and_eq_false_iff, decide_eq_false_iff_not, decide_eq_false_iff_not, decide_eq_false_iff_not] at hb
          refine cc _ (.inr ⟨k, by omega, hkm, pk, rfl, up b fun _ => ?_⟩)
          by_cases z : R k (n + m) / R k c = R pre.length (n + m) / R pre.length c
          · rcases hb.2 with y | y
            · exact absurd (by rw [z]) y
            · exact .inr ⟨z, by omega⟩
          · exact .inl (by have := hb.1; grind)
    · have p : ¬ 0 < R pre.length c := fun z => of_decide_eq_false hb (Sx.num_pos_iff.mpr z)
      refine cc _ ?_
      rcases I with ⟨rfl, no⟩ | ⟨k, hk, hkm, pk, rfl, b⟩
      · exact .inl ⟨rfl, up no p⟩
      · exact .inr ⟨k, by omega, hkm, pk, rfl, up b fun z => absurd z p⟩
def F_Table_leaving (mg : Str → Option Value) : FS := fun ts R => ∃ (self : Tb) (column : Int) (P : Tb → Int → Prop), ts = [(self.T (clsOf mg "Table")), (.fz (D.int column))] ∧ w_Table_leaving self column P ∧ ∀ (self_ : Tb) (r : Int), P self_ r → R [some (self_.T (clsOf mg "Table"))] ((.fz (D.int r)))
def b_Table_leaving (mg : Str → Option Value) : DTS := (dSeq (dSet 2 (dConst (.fz .non)))
    (dSeq (dForEF (dFld (clsOf mg "Table") 0 "rows") (gT 2 (gsCons (gN 3) (gsCons (gN 4) gsNil))) (dSeq (dCut (dIf (dVal (dBin (cmpI fun i j => decide (j < i)) true (dBin ixD true (dBin ixD true (dVar 4) (dVar 1)) (dConst (.fz (.int 0)))) (dConst (.fz (.int 0))))) (dSeq (dSet 5 (dTup (dAConsP (dCallP 2 F_over (dAConsP (dBin ixD true (dVar 4) (dUn negD (dConst (.fz (.int 1))))) (dAConsP (dBin ixD true (dVar 4) (dVar 1)) dNil))) (dAConsP (dBin ixD true (dFld (clsOf mg "Table") 0 "held") (dVar 3)) (dACons (dVar 3) dNil)))))
    (dSeq (dCut (dIf (dOr (dVal (dBin (isNoneD false) true (dVar 2) (dConst (.fz .non)))) (dOr (dVal (dCallP 2 F_is_below (dAConsP (dBin ixD true (dVar 5) (dConst (.fz (.int 0)))) (dAConsP (dBin ixD true (dVar 2) (dConst (.fz (.int 0)))) dNil)))) (dAnd (dVal (dBin eqD true (dBin ixD true (dVar 5) (dConst (.fz (.int 0)))) (dBin ixD true (dVar 2) (dConst (.fz (.int 0)))))) (dVal (dBin (cmpI fun i j => decide (i < j)) true (dBin ixD true (dVar 5) (dConst (.fz (.int 1)))) (dBin ixD true (dVar 2) (dConst (.fz (.int 1))))))))) (dSeq (dSet 2 (dVar 5))
    dNext) dNext))
    (dSeq (dKill [5]) dNext))) dNext))
    (dSeq (dKill [3, 4]) dNext)))
    (dRet (dBin ixD true (dVar 2) (dConst (.fz (.int 2)))))))
set_option maxHeartbeats 4000000 in
theorem law_Table_leaving (mg : Str → Option Value) : ∀ ts R, ts.length = 2 → F_Table_leaving mg ts R → b_Table_leaving mg ⟨fun G => R (G.take 1) (.fz .non), retW 1 R⟩ (ts.map some ++ List.replicate ((["self", "column", "found", "k", "row", "rate"] : List Str).length - 2) none) := by
  rintro ts R - ⟨self, column, P, rfl, h, hR⟩
  unfold w_Table_leaving at h
  unfold b_Table_leaving
  refine q_env (G2 := [some (self.T (clsOf mg "Table")), some (.fz (D.int column)), none, none, none, none]) rfl ?_
  refine p_set (G' := [some (self.T (clsOf mg "Table")), some (.fz (D.int column)), some (.fz ((eO (eP3 eF D.int D.int)) (none : Option ((Int × Int) × Int × Int)))), none, none, none]) sp_con (lt_l rfl) rfl ?_
  refine p_forEF (e := (eL eF)) rfl (lk_s (by decide +kernel) lk_0) (fun qv_ => (setL_s (by decide +kernel) setL_0)) (G' := fun qv_ => [some (.ins (clsOf mg "Table") [("many", (.fz (D.int self.many))), ("rows", .fz (.opq qv_)), ("last", (.fz ((eL eF) self.last))), ("held", (tLs D.int self.held))]), some (.fz (D.int column)), some (.fz ((eO (eP3 eF D.int D.int)) (none : Option ((Int × Int) × Int × Int)))), none, none, none]) (fun qv_ => rfl) (fun qv_ => ?_)
  refine q_for1 (eP D.int (eL eF)) (fun (found : Option ((Int × Int) × Int × Int)) => [some (.ins (clsOf mg "Table") [("many", (.fz (D.int self.many))), ("rows", .fz (.opq qv_)), ("last", (.fz ((eL eF) self.last))), ("held", (tLs D.int self.held))]), some (.fz (D.int column)), some (.fz ((eO (eP3 eF D.int D.int)) found)), none, none, none]) si_lit rfl h (fun found p P C h hC => ?_) (fun found h => ?_)
  · refine (sg_pair (G' := [some (.ins (clsOf mg "Table") [("many", (.fz (D.int self.many))), ("rows", .fz (.opq qv_)), ("last", (.fz ((eL eF) self.last))), ("held", (tLs D.int self.held))]), some (.fz (D.int column)), some (.fz ((eO (eP3 eF D.int D.int)) found)), some (.fz (D.int p.1)), some (.fz ((eL eF) p.2)), none]) (lt_l rfl) (lt_l rfl) rfl) _ ?_
    refine q_cut1 (fun (found1 : Option ((Int × Int) × Int × Int)) => [some (.ins (clsOf mg "Table") [("many", (.fz (D.int self.many))), ("rows", .fz (.opq qv_)), ("last", (.fz ((eL eF) self.last))), ("held", (tLs D.int self.held))]), some (.fz (D.int column)), some (.fz ((eO (eP3 eF D.int D.int)) found1)), some (.fz (D.int p.1)), some (.fz ((eL eF) p.2)), none]) h (fun j2 h => ?_) (fun found1 h => ?_)
    · obtain ⟨q1, h⟩ := h
      refine p_if (st_val (sp_bin (sp_bin (sp_bin (sp_var_fz (i := 4) rfl) rd_fz (sp_var_fz (i := 1) rfl) rd_fz (k_ixL (e := eF) q1)) rd_fz sp_con rd_fz k_ixF0) rd_fz sp_con rd_fz k_gt) rd_fz) (fun hb => ?_) (fun hb => ?_)
      · replace h := h.1 hb
        obtain ⟨q2, q3, q4, q5, h⟩ := h
        refine p_setB (fun x => (.fz ((eP3 eF D.int D.int) x))) (G' := fun rate => [some (.ins (clsOf mg "Table") [("many", (.fz (D.int self.many))), ("rows", .fz (.opq qv_)), ("last", (.fz ((eL eF) self.last))), ("held", (tLs D.int self.held))]), some (.fz (D.int column)), some (.fz ((eO (eP3 eF D.int D.int)) found)), some (.fz (D.int p.1)), some (.fz ((eL eF) p.2)), some (.fz ((eP3 eF D.int D.int) rate))]) h (sp_tup (sa_consP (sp_callP (sa_consP (sp_bin (sp_var_fz (i := 4) rfl) rd_fz (sp_un sp_con rd_fz k_neg) rd_fz (k_ixL (e := eF) q2)) fz_fz (sa_consP (sp_bin (sp_var_fz (i := 4) rfl) rd_fz (sp_var_fz (i := 1) rfl) rd_fz (k_ixL (e := eF) q3)) fz_fz sa_nil)) rfl rfl (fun R hR => ⟨(gi p.2 (-(1 : Int))), (gi p.2 column), rfl, q4, hR⟩)) fz_fz (sa_consP (sp_bin (sp_fldP (i := 0) rfl (lk_s (by decide +kernel) (lk_s (by decide +kernel) (lk_s (by decide +kernel) lk_0))) trivial) (rd_pf rfl (lk_s (by decide +kernel) (lk_s (by decide +kernel) (lk_s (by decide +kernel) lk_0))) rfl) (sp_var_fz (i := 3) rfl) rd_fz (k_ixL (e := D.int) q5)) fz_fz (sa_cons (sp_var_fz (i := 3) rfl) fz_fz sa_nil))) rfl (Nat.le_of_ble_eq_true rfl)) (lt_l rfl) (fun _ => rfl) fun rate h => ?_
        refine q_cut1 (fun (found2 : Option ((Int × Int) × Int × Int)) => [some (.ins (clsOf mg "Table") [("many", (.fz (D.int self.many))), ("rows", .fz (.opq qv_)), ("last", (.fz ((eL eF) self.last))), ("held", (tLs D.int self.held))]), some (.fz (D.int column)), some (.fz ((eO (eP3 eF D.int D.int)) found2)), some (.fz (D.int p.1)), some (.fz ((eL eF) p.2)), some (.fz ((eP3 eF D.int D.int) rate))]) h (fun j3 h => ?_) (fun found2 h => ?_)
        · obtain ⟨q12, h⟩ := h
          refine p_if (st_or (st_val (sp_bin (sp_var_fz (i := 2) rfl) rd_fz sp_con rd_fz (k_isO (fun _ => trivial))) rd_fz) (fun hb => (have ⟨q6, q7, q11⟩ := q12 hb; (st_or (st_val (sp_callP (sa_consP (sp_bin (sp_var_fz (i := 5) rfl) rd_fz sp_con rd_fz k_ix0) fz_fz (sa_consP (sp_bin (sp_cast (eO_some q6) (sp_var_fz (i := 2) rfl)) rd_fz sp_con rd_fz k_ix0) fz_fz sa_nil)) rfl rfl (fun R hR => ⟨rate.1, ((found.getD default).1), rfl, q7, hR⟩)) rd_fz) (fun hb => (have ⟨q8, q10⟩ := q11 hb; (st_and (st_val (sp_bin (sp_bin (sp_var_fz (i := 5) rfl) rd_fz sp_con rd_fz k_ix0) rd_fz (sp_bin (sp_cast (eO_some q8) (sp_var_fz (i := 2) rfl)) rd_fz sp_con rd_fz k_ix0) rd_fz (k_eq (a := rate.1) (b := (found.getD default).1) ok_fr (Nat.le_of_ble_eq_true rfl))) rd_fz) (fun hb => (have q9 := q10 hb; (st_val (sp_bin (sp_bin (sp_var_fz (i := 5) rfl) rd_fz sp_con rd_fz k_ix1) rd_fz (sp_bin (sp_cast (eO_some q9) (sp_var_fz (i := 2) rfl)) rd_fz sp_con rd_fz k_ix1) rd_fz k_lt) rd_fz)))))))))) (fun hb => ?_) (fun hb => ?_)
          · replace h := h.1 hb
            refine p_set (G' := [some (.ins (clsOf mg "Table") [("many", (.fz (D.int self.many))), ("rows", .fz (.opq qv_)), ("last", (.fz ((eL eF) self.last))), ("held", (tLs D.int self.held))]), some (.fz (D.int column)), some (.fz ((eO (eP3 eF D.int D.int)) (some rate))), some (.fz (D.int p.1)), some (.fz ((eL eF) p.2)), some (.fz ((eP3 eF D.int D.int) rate))]) (sp_var_fz (i := 5) rfl) (lt_l rfl) rfl ?_
            exact ⟨_, h, rfl⟩
          · replace h := h.2 hb
            exact ⟨_, h, rfl⟩
        refine p_kill (G' := [some (.ins (clsOf mg "Table") [("many", (.fz (D.int self.many))), ("rows", .fz (.opq qv_)), ("last", (.fz ((eL eF) self.last))), ("held", (tLs D.int self.held))]), some (.fz (D.int column)), some (.fz ((eO (eP3 eF D.int D.int)) found2)), some (.fz (D.int p.1)), some (.fz ((eL eF) p.2)), none]) rfl ?_
        exact ⟨_, h, rfl⟩
      · replace h := h.2 hb
        exact ⟨_, h, rfl⟩
    refine p_kill (G' := [some (.ins (clsOf mg "Table") [("many", (.fz (D.int self.many))), ("rows", .fz (.opq qv_)), ("last", (.fz ((eL eF) self.last))), ("held", (tLs D.int self.held))]), some (.fz (D.int column)), some (.fz ((eO (eP3 eF D.int D.int)) found1)), none, none, none]) rfl ?_
    exact hC _ h
  refine w_endEF (G3 := [some (self.T (clsOf mg "Table")), some (.fz (D.int column)), some (.fz ((eO (eP3 eF D.int D.int)) found)), none, none, none]) rfl (lk_s (by decide +kernel) lk_0) (setL_s (by decide +kernel) setL_0) rfl ?_
  obtain ⟨q13, h⟩ := h
  exact p_ret (sp_bin (sp_cast (eO_some q13) (sp_var_fz (i := 2) rfl)) rd_fz sp_con rd_fz k_ix2) (hR _ _ h)
theorem ok_Table_leaving {f C : Addr} {fd : FuncData} (hm : mg "Table" = some (.ref C)) (hc : Cls K C) (me : Meth K C "leaving" f) (Fd : C8.Fun K "leaving" "Table.leaving" s_Table_leaving f fd) (bd : Binds K fd ["self", "column"] []) (h_over : Fn P w K mg base 2 "over" 2 0 F_over) (h_is_below : Fn P w K mg base 1 "is_below" 2 0 F_is_below) (L_Table_rows : Fld K mg "Table" "rows") (L_Table_held : Fld K mg "Table" "held") (T_enumerate : mg "enumerate" = none) : Mth P w K mg base (3) "Table" "leaving" 2 (F_Table_leaving mg) := by
  refine mth_mk (body := b_Table_leaving mg) hm hc me Fd bd sc_Table_leaving rfl (by decide) (fun cdv A outer s H E hgd hr => ?_) (law_Table_leaving mg)
  have nd := sc_Table_leaving.nd
  have hu64 := hr.units
  have hu65 := hu65 hr
  have hu1 := hu1 hr
  have hu2 := hu2 hr
  have hu0 := hr.units0
  exact (dss_cons (ds_set (i := 2) nd rfl (.inl rfl) de_non (by decide))
    (dss_cons (ds_forEF PassesOwn.never rfl (by rfl) T_enumerate (de_fld L_Table_rows (pv 0)) (dg_tup rfl (dgs_cons (dg_name (i := 3) (pg_name (i := 3) nd rfl (.inl rfl)) (fun _ _ => take_set (by decide))) (dgs_cons (dg_name (i := 4) (pg_name (i := 4) nd rfl (.inl rfl)) (fun _ _ => take_set (by decide))) dgs_nil))) (dss_cons (ds_cut (ds_if (dt_cmp gt_ok (nomark _) (de_ix hu1 (de_ix hu1 (de_var (pv 4)) (de_var (pv 1)) (fun _ _ => rfl)) de_int (fun _ _ => rfl)) de_int) (dss_cons (ds_set (i := 5) nd rfl (.inl rfl) (de_tup (da_consP (de_callP h_over hgd hr (by decide) (by rfl) (da_consP (de_ix hu1 (de_var (pv 4)) (de_un neg_ok de_int) (fun _ _ => rfl)) (da_consP (de_ix hu1 (de_var (pv 4)) (de_var (pv 1)) (fun _ _ => rfl)) da_nil))) (da_consP (de_ix hu1 (de_fld L_Table_held (pv 0)) (de_var (pv 3)) (fun _ _ => rfl)) (da_cons (de_var (pv 3)) da_nil)))) (by decide))
    (dss_cons (ds_cut (ds_if (DW.dt (dw_or (dt_cmp isN_ok (nomark _) (de_var (pv 2)) de_non) (dw_or (dt_val (de_callP h_is_below hgd hr (by decide) (by rfl) (da_consP (de_ix hu1 (de_var (pv 5)) de_int (fun _ _ => rfl)) (da_consP (de_ix hu1 (de_var (pv 2)) de_int (fun _ _ => rfl)) da_nil)))) (dw_or1 (DW.dt (dw_and (dt_cmp (eq_ok hu64) (nomark _) (de_ix hu1 (de_var (pv 5)) de_int (fun _ _ => rfl)) (de_ix hu1 (de_var (pv 2)) de_int (fun _ _ => rfl))) (dw_and1 (dt_cmp lt_ok (nomark _) (de_ix hu1 (de_var (pv 5)) de_int (fun _ _ => rfl)) (de_ix hu1 (de_var (pv 2)) de_int (fun _ _ => rfl)))))))))) (dss_cons (ds_set (i := 2) nd rfl (.inl rfl) (de_var (pv 5)) (by decide))
    dss_nil) dss_nil))
    (dss_kill [5] dss_nil))) dss_nil))
    (dss_kill [3, 4] dss_nil)))
    (dss_one (ds_ret (de_ix hu1 (de_var (pv 2)) de_int (fun _ _ => rfl))))))
abbrev s_Table_turn : Stmt := inClass (topS 15) 2
theorem sc_Table_turn : FnScope ["self", "column", "k", "by", "j", "one"] ["self", "column", "k"] (C8.fnScope s_Table_turn) := C8.fnScope_by (by decide +kernel)
def w_Table_turn (self : Tb) (column : Int) (k : Int) (Q : Tb → Unit → Prop) : Prop :=
  (InR self.rows k) ∧ (InR (gi self.rows k) column) ∧ bnd (gi (gi self.rows k) column) fun by_v =>
  (InR self.rows k) ∧ ((gi self.rows k).length ≤ 10000000) ∧ (∀ one ∈ gi self.rows k, (overP one by_v)) ∧ (0 ≤ k ∧ k < self.rows.length) ∧ bnd ({self with rows := self.rows.set (k).toNat ((gi self.rows k).map (fun one => overF one by_v))}) fun self1 =>
  (-(2 ^ 62) ≤ (self1.rows.length : Int) ∧ (self1.rows.length : Int) < 2 ^ 62) ∧ wFor1 (irange 0 (self1.rows.length : Int)) self1 (fun self2 (j_v : Int) nx =>
  wJ1 (fun j1 =>
  wIf (!decide (j_v = k))
  ((InR self2.rows j_v) ∧ (InR self2.rows j_v) ∧ (InR (gi self2.rows j_v) column) ∧ (InR self2.rows k) ∧ (takenP (gi self2.rows j_v) (gi (gi self2.rows j_v) column) (gi self2.rows k)) ∧ (0 ≤ j_v ∧ j_v < self2.rows.length) ∧ bnd ({self2 with rows := self2.rows.set (j_v).toNat (takenF (gi self2.rows j_v) (gi (gi self2.rows j_v) column) (gi self2.rows k))}) fun self4 =>
  j1 self4)
  (j1 self2))
  (fun (self3 : Tb) => nx self3))
  (fun (self2 : Tb) => (InR self2.last column) ∧ (InR self2.rows k) ∧ (takenP self2.last (gi self2.last column) (gi self2.rows k)) ∧ bnd ({self2 with last := takenF self2.last (gi self2.last column) (gi self2.rows k)}) fun self5 =>
  (0 ≤ k ∧ k < self5.held.length) ∧ bnd ({self5 with held := self5.held.set (k).toNat column}) fun self6 =>
  Q self6 ())
theorem spec_Table_turn {n m : Nat} {R : Nat → Nat → Rat} {L : Nat → Rat} {H : Nat → Nat} {c k : Nat} {Q : Tb → Unit → Prop} (hN : n + m ≤ 9000000) (hc : c < n + m) (hk : k < m) (p : 0 < R k c) (sm : ∀ j < m, ∀ v, Sx.Sm 300 (R j v)) (smL : ∀ v, Sx.Sm 300 (L v))
    (q : Q (Sx.mkTb n m (Sx.pivR R c k) (Sx.pivL R L c k) (Sx.pivH H c k)) ()) : w_Table_turn (Sx.mkTb n m R L H) (c : Int) (k : Int) Q := by
  unfold w_Table_turn
  have inK : ∀ {R' : Nat → Nat → Rat} {L' : Nat → Rat} {H' : Nat → Nat} {j : Nat}, j < m → InR (Sx.mkTb n m R' L' H').rows (j : Int) := fun h => by unfold InR; rw [Sx.tb_rows_len]; omega
  have eg : ∀ {f : Nat → Rat}, gi (Sx.rowT (n + m) f) (c : Int) = qF (f c) := Sx.rowT_gi (by omega)
  have ic : ∀ {f : Nat → Rat}, InR (Sx.rowT (n + m) f) (c : Int) := Sx.rowT_in (by omega)
  rw [Sx.tb_row hk, eg]
  refine ⟨inK hk, ic, ?_⟩
  rintro _ rfl
  refine ⟨inK hk, by rw [Sx.rowT_len]; omega, fun one ho => ?_, by rw [Sx.tb_rows_len]; omega, ?_⟩
  · obtain ⟨v, _, rfl⟩ := Sx.mem_rowT ho
    exact Sx.overP_sm (sm k hk v) (sm k hk c) (by omega) p
  rw [Sx.over_row p]
  -- rows at the moment i
  have R1 : ∀ (x : Tb), x = { Sx.mkTb n m R L H with rows := (Sx.mkTb n m R L H).rows.set (k : Int).toNat (Sx.rowT (n + m) fun v => R k v / R k c) } → x = Sx.mkTb n m (fun j => if j = k then Sx.pivR R c k k else R j) L H := fun x e => by
    rw [e]
    unfold Sx.mkTb
    dsimp only
    rw [show (k : Int).toNat = k by omega, Sx.range_set hk]
    congr 1
    refine Sx.range_congr fun j _ => ?_
    by_cases z : j = k
    · rw [if_pos z, if_pos z]
      refine Sx.rowT_congr fun v _ => ?_
      unfold Sx.pivR; rw [if_pos rfl]
    · rw [if_neg z, if_neg z]
  intro x ex
  rw [R1 x ex]
  have pk : ∀ v, Sx.Sm 600 (Sx.pivR R c k k v) := fun v => by unfold Sx.pivR; rw [if_pos rfl]; exact (sm k hk v).div (sm k hk c) p
  refine ⟨by rw [Sx.tb_rows_len]; omega, ?_⟩
  rw [Sx.tb_rows_len]
  refine wFor1_z (by omega) (fun i y => ∃ t : Nat, i = (t : Int) ∧ t ≤ m ∧ y = Sx.mkTb n m (fun j => if j < t ∨ j = k then Sx.pivR R c k j else R j) L H) ⟨0, rfl, by omega, ?_⟩ ?_ ?_
  · refine Sx.mkTb_congr (fun j _ v => ?_) (fun _ => rfl) fun _ _ => rfl
    by_cases z : j = k
    · rw [if_pos z, if_pos (.inr z), z]
    · rw [if_neg z, if_neg (by omega)]
  · rintro y ⟨t, et, ht, rfl⟩
    obtain rfl : t = m := by omega
    have e0 : Sx.mkTb n t (fun j => if j < t ∨ j = k then Sx.pivR R c k j else R j) L H = Sx.mkTb n t (Sx.pivR R c k) L H := Sx.mkTb_congr (fun j hj v => by rw [if_pos (.inl hj)]) (fun _ => rfl) fun _ _ => rfl
    rw [e0, Sx.tb_row hk, show (Sx.mkTb n t (Sx.pivR R c k) L H).last = Sx.rowT (n + t) L from rfl, eg]
    refine ⟨ic, inK hk, Sx.taken_ok (by omega) (fun v _ => (smL v).mono (by omega)) ((smL c).mono (by omega)) fun v _ => (pk v).mono (by omega), ?_⟩
    rw [Sx.taken_row]
    rintro _ rfl
    refine ⟨by show 0 ≤ (k : Int) ∧ (k : Int) < ((Sx.mkTb n t (Sx.pivR R c k) L H).held.length : Nat); rw [Sx.tb_held_len]; omega, ?_⟩
    rintro _ rfl
    have e1 : ({ ({ Sx.mkTb n t (Sx.pivR R c k) L H with last := Sx.rowT (n + t) fun v => L v - L c * Sx.pivR R c k k v } : Tb) with held := ({ Sx.mkTb n t (Sx.pivR R c k) L H with last := Sx.rowT (n + t) fun v => L v - L c * Sx.pivR R c k k v } : Tb).held.set (k : Int).toNat (c : Int) } : Tb) = Sx.mkTb n t (Sx.pivR R c k) (Sx.pivL R L c k) (Sx.pivH H c k) := by
      unfold Sx.mkTb
      dsimp only
      rw [show (k : Int).toNat = k by omega, Sx.range_set hk]
      congr 1
      · refine Sx.rowT_congr fun v _ => ?_
        unfold Sx.pivL Sx.pivR; rw [if_pos rfl]
      · refine Sx.range_congr fun j _ => ?_
        unfold Sx.pivH
        by_cases z : j = k
        · rw [if_pos z, if_pos z]
        · rw [if_neg z, if_neg z]
    rw [e1]; exact q
  · rintro _ y C i0 i1 ⟨t, rfl, ht, rfl⟩ cc
    have htm : t < m := by omega
    refine wJ1.mk ⟨fun hb => ?_, fun hb => ?_⟩
    · have tk : t ≠ k := fun z => by subst z; simp at hb
      have et : (if t < t ∨ t = k then Sx.pivR R c k t else R t) = R t := if_neg (by omega)
      have ek : (if k < t ∨ k = k then Sx.pivR R c k k else R k) = Sx.pivR R c k k := if_pos (.inr rfl)
      rw [Sx.tb_row htm, Sx.tb_row hk, et, ek, eg]
      refine ⟨inK htm, inK htm, ic, inK hk, Sx.taken_ok (by omega) (fun v _ => (sm t htm v).mono (by omega)) ((sm t htm c).mono (by omega)) fun v _ => (pk v).mono (by omega), by rw [Sx.tb_rows_len]; omega, ?_⟩
      rw [Sx.taken_row]
      rintro _ rfl
      refine cc _ ⟨t + 1, by omega, by omega, ?_⟩
      unfold Sx.mkTb
      dsimp only
      rw [show (t : Int).toNat = t by omega, Sx.range_set htm]
      congr 1
      refine Sx.range_congr fun j _ => ?_
      by_cases z : j = t
      · rw [if_pos z, if_pos (.inl (by omega))]
        refine Sx.rowT_congr fun v _ => ?_
        subst z
        unfold Sx.pivR
        rw [if_pos rfl, if_neg tk]
      · rw [if_neg z]
        by_cases y : j < t ∨ j = k
        · rw [if_pos y, if_pos (by omega)]
        · rw [if_neg y, if_neg (by omega)]
    · have tk : t = k := by simp at hb; omega
      refine cc _ ⟨t + 1, by omega, by omega, Sx.mkTb_congr (fun j _ v => ?_) (fun _ => rfl) fun _ _ => rfl⟩
      by_cases y : j < t ∨ j = k
      · rw [if_pos y, if_pos (by omega)]
      · rw [if_neg y, if_neg (by omega)]
def F_Table_turn (mg : Str → Option Value) : FS := fun ts R => ∃ (self : Tb) (column : Int) (k : Int) (P : Tb → Unit → Prop), ts = [(self.T (clsOf mg "Table")), (.fz (D.int column)), (.fz (D.int k))] ∧ w_Table_turn self column k P ∧ ∀ (self_ : Tb) (r : Unit), P self_ r → R [some (self_.T (clsOf mg "Table"))] ((.fz (eN r)))
def b_Table_turn (mg : Str → Option Value) : DTS := (dSeq (dSet 3 (dBin ixD true (dBin ixD true (dFld (clsOf mg "Table") 0 "rows") (dVar 2)) (dVar 1)))
    (dSeq (dStore true (dLc (iSeqD (dBin ixD true (dFld (clsOf mg "Table") 0 "rows") (dVar 2))) (gN 5) dYes (dCall 2 F_over (dACons (dVar 5) (dACons (dVar 3) dNil))) [5]) (dFld (clsOf mg "Table") 0 "rows") (dVar 2))
    (dSeq (dFor (iRange1 (dAConsP (dCB1 (fun y R => lenD [y] R) (dFld (clsOf mg "Table") 0 "rows")) dNil)) (gN 4) (dSeq (dCut (dIf (dVal (dBin neD true (dVar 4) (dVar 2))) (dSeq (dStore true (dCallP 3 F_taken_off (dAConsP (dBin ixD true (dFld (clsOf mg "Table") 0 "rows") (dVar 4)) (dAConsP (dBin ixD true (dBin ixD true (dFld (clsOf mg "Table") 0 "rows") (dVar 4)) (dVar 1)) (dAConsP (dBin ixD true (dFld (clsOf mg "Table") 0 "rows") (dVar 2)) dNil)))) (dFld (clsOf mg "Table") 0 "rows") (dVar 4))
    dNext) dNext))
    (dSeq (dKill [4]) dNext)))
    (dSeq (dFPutZ (clsOf mg "Table") 0 "last" (dCallP 3 F_taken_off (dAConsP (dFld (clsOf mg "Table") 0 "last") (dAConsP (dBin ixD true (dFld (clsOf mg "Table") 0 "last") (dVar 1)) (dAConsP (dBin ixD true (dFld (clsOf mg "Table") 0 "rows") (dVar 2)) dNil)))))
    (dSeq (dStore true (dVar 1) (dFld (clsOf mg "Table") 0 "held") (dVar 2))
    dNext)))))
set_option maxHeartbeats 4000000 in
theorem law_Table_turn (mg : Str → Option Value) : ∀ ts R, ts.length = 3 → F_Table_turn mg ts R → b_Table_turn mg ⟨fun G => R (G.take 1) (.fz .non), retW 1 R⟩ (ts.map some ++ List.replicate ((["self", "column", "k", "by", "j", "one"] : List Str).length - 3) none) := by
  rintro ts R - ⟨self, column, k, P, rfl, h, hR⟩
  unfold w_Table_turn at h
  unfold b_Table_turn
  refine q_env (G2 := [some (self.T (clsOf mg "Table")), some (.fz (D.int column)), some (.fz (D.int k)), none, none, none]) rfl ?_
  obtain ⟨q1, q2, h⟩ := h
  refine p_setB (fun x => (.fz (eF x))) (G' := fun by_v => [some (self.T (clsOf mg "Table")), some (.fz (D.int column)), some (.fz (D.int k)), some (.fz (eF by_v)), none, none]) h (sp_bin (sp_bin (sp_fldP (i := 0) rfl (lk_s (by decide +kernel) lk_0) trivial) (rd_pf rfl (lk_s (by decide +kernel) lk_0) rfl) (sp_var_fz (i := 2) rfl) rd_fz (k_ixL (e := (eL eF)) q1)) rd_fz (sp_var_fz (i := 1) rfl) rd_fz (k_ixL (e := eF) q2)) (lt_l rfl) (fun _ => rfl) fun by_v h => ?_
  obtain ⟨q3, q4, q6, q7, h⟩ := h
  obtain ⟨self1, e_self1, h⟩ := h.get
  refine p_fstoL (e := (eL eF)) (x := (gi self.rows k).map (fun one => overF one by_v)) rfl (lk_s (by decide +kernel) lk_0) (sp_lc0 eF (fun one => overF one by_v) eF (fun one => [some (self.T (clsOf mg "Table")), some (.fz (D.int column)), some (.fz (D.int k)), some (.fz (eF by_v)), none, some (.fz (eF one))]) (si_seqL (sp_bin (sp_fldP (i := 0) rfl (lk_s (by decide +kernel) lk_0) trivial) (rd_pf rfl (lk_s (by decide +kernel) lk_0) rfl) (sp_var_fz (i := 2) rfl) rd_fz (k_ixL (e := (eL eF)) q3)) fz_fz) q4 (fun one hx => (sg_name (G' := [some (self.T (clsOf mg "Table")), some (.fz (D.int column)), some (.fz (D.int k)), some (.fz (eF by_v)), none, some (.fz (eF one))]) (lt_l rfl) rfl)) (fun one hx => (have q5 := q6 one hx; ⟨_, (sp_call (sa_cons (sp_var_fz (i := 5) rfl) fz_fz (sa_cons (sp_var_fz (i := 3) rfl) fz_fz sa_nil)) rfl rfl (fun R hR => ⟨one, by_v, rfl, q5, hR⟩)), fz_fz⟩)) (fun _ => rfl) rfl) fz_ls (sp_var_fz (i := 2) rfl) rd_fz rfl q7 (setL_s (by decide +kernel) setL_0) (G' := [some (self1.T (clsOf mg "Table")), some (.fz (D.int column)), some (.fz (D.int k)), some (.fz (eF by_v)), none, none]) (by subst e_self1; rfl) ?_
  obtain ⟨q8, h⟩ := h
  refine q_for1 D.int (fun (self2 : Tb) => [some (self2.T (clsOf mg "Table")), some (.fz (D.int column)), some (.fz (D.int k)), some (.fz (eF by_v)), none, none]) (si_range1 (sa_consP (sp_cb1 (sp_fldP (i := 0) rfl (lk_s (by decide +kernel) lk_0) trivial) (rd_pf rfl (lk_s (by decide +kernel) lk_0) rfl) (k_lenL (e := (eL eF)))) fz_fz sa_nil) q8) rfl h (fun self2 j_v P C h hC => ?_) (fun self2 h => ?_)
  · refine (sg_name (G' := [some (self2.T (clsOf mg "Table")), some (.fz (D.int column)), some (.fz (D.int k)), some (.fz (eF by_v)), some (.fz (D.int j_v)), none]) (lt_l rfl) rfl) _ ?_
    refine q_cut1 (fun (self3 : Tb) => [some (self3.T (clsOf mg "Table")), some (.fz (D.int column)), some (.fz (D.int k)), some (.fz (eF by_v)), some (.fz (D.int j_v)), none]) h (fun j1 h => ?_) (fun self3 h => ?_)
    · refine p_if (st_val (sp_bin (sp_var_fz (i := 4) rfl) rd_fz (sp_var_fz (i := 2) rfl) rd_fz (k_ne (a := j_v) (b := k) ok_int (Nat.le_of_ble_eq_true rfl))) rd_fz) (fun hb => ?_) (fun hb => ?_)
      · replace h := h.1 hb
        obtain ⟨q9, q10, q11, q12, q13, q14, h⟩ := h
        obtain ⟨self4, e_self4, h⟩ := h.get
        refine p_fstoL (e := (eL eF)) (x := takenF (gi self2.rows j_v) (gi (gi self2.rows j_v) column) (gi self2.rows k)) rfl (lk_s (by decide +kernel) lk_0) (sp_callP (sa_consP (sp_bin (sp_fldP (i := 0) rfl (lk_s (by decide +kernel) lk_0) trivial) (rd_pf rfl (lk_s (by decide +kernel) lk_0) rfl) (sp_var_fz (i := 4) rfl) rd_fz (k_ixL (e := (eL eF)) q9)) fz_fz (sa_consP (sp_bin (sp_bin (sp_fldP (i := 0) rfl (lk_s (by decide +kernel) lk_0) trivial) (rd_pf rfl (lk_s (by decide +kernel) lk_0) rfl) (sp_var_fz (i := 4) rfl) rd_fz (k_ixL (e := (eL eF)) q10)) rd_fz (sp_var_fz (i := 1) rfl) rd_fz (k_ixL (e := eF) q11)) fz_fz (sa_consP (sp_bin (sp_fldP (i := 0) rfl (lk_s (by decide +kernel) lk_0) trivial) (rd_pf rfl (lk_s (by decide +kernel) lk_0) rfl) (sp_var_fz (i := 2) rfl) rd_fz (k_ixL (e := (eL eF)) q12)) fz_fz sa_nil))) rfl rfl (fun R hR => ⟨(gi self2.rows j_v), (gi (gi self2.rows j_v) column), (gi self2.rows k), rfl, q13, hR⟩)) fz_ls (sp_var_fz (i := 4) rfl) rd_fz rfl q14 (setL_s (by decide +kernel) setL_0) (G' := [some (self4.T (clsOf mg "Table")), some (.fz (D.int column)), some (.fz (D.int k)), some (.fz (eF by_v)), some (.fz (D.int j_v)), none]) (by subst e_self4; rfl) ?_
        exact ⟨_, h, rfl⟩
      · replace h := h.2 hb
        exact ⟨_, h, rfl⟩
    refine p_kill (G' := [some (self3.T (clsOf mg "Table")), some (.fz (D.int column)), some (.fz (D.int k)), some (.fz (eF by_v)), none, none]) rfl ?_
    exact hC _ h
  refine q_fputZ ?_
  obtain ⟨q15, q16, q17, h⟩ := h
  refine (sp_callP (sa_consP (sp_fld (i := 0) rfl (lk_s (by decide +kernel) (lk_s (by decide +kernel) lk_0))) fz_fz (sa_consP (sp_bin (sp_fld (i := 0) rfl (lk_s (by decide +kernel) (lk_s (by decide +kernel) lk_0))) rd_fz (sp_var_fz (i := 1) rfl) rd_fz (k_ixL (e := eF) q15)) fz_fz (sa_consP (sp_bin (sp_fldP (i := 0) rfl (lk_s (by decide +kernel) lk_0) trivial) (rd_pf rfl (lk_s (by decide +kernel) lk_0) rfl) (sp_var_fz (i := 2) rfl) rd_fz (k_ixL (e := (eL eF)) q16)) fz_fz sa_nil))) rfl rfl (fun R hR => ⟨self2.last, (gi self2.last column), (gi self2.rows k), rfl, q17, hR⟩)) _ ?_
  obtain ⟨self5, e_self5, h⟩ := h.get
  refine w_fputZ (i := 0) rfl fz_ls (pf_s (by decide +kernel) (pf_s (by decide +kernel) pf_0)) (Nat.le_of_ble_eq_true rfl) (G' := [some (self5.T (clsOf mg "Table")), some (.fz (D.int column)), some (.fz (D.int k)), some (.fz (eF by_v)), none, none]) (by subst e_self5; rfl) ?_
  obtain ⟨q18, h⟩ := h
  obtain ⟨self6, e_self6, h⟩ := h.get
  refine p_fstoL (e := D.int) (x := column) rfl (lk_s (by decide +kernel) (lk_s (by decide +kernel) (lk_s (by decide +kernel) lk_0))) (sp_var_fz (i := 1) rfl) fz_fz (sp_var_fz (i := 2) rfl) rd_fz rfl q18 (setL_s (by decide +kernel) (setL_s (by decide +kernel) (setL_s (by decide +kernel) setL_0))) (G' := [some (self6.T (clsOf mg "Table")), some (.fz (D.int column)), some (.fz (D.int k)), some (.fz (eF by_v)), none, none]) (by subst e_self6; rfl) ?_
  exact hR _ _ h
theorem ok_Table_turn {f C : Addr} {fd : FuncData} (hm : mg "Table" = some (.ref C)) (hc : Cls K C) (me : Meth K C "turn" f) (Fd : C8.Fun K "turn" "Table.turn" s_Table_turn f fd) (bd : Binds K fd ["self", "column", "k"] []) (h_over : Fn P w K mg base 2 "over" 2 0 F_over) (h_taken_off : Fn P w K mg base 3 "taken_off" 3 0 F_taken_off) (L_Table_rows : Fld K mg "Table" "rows") (L_Table_last : Fld K mg "Table" "last") (L_Table_held : Fld K mg "Table" "held") (T_len : mg "len" = none) (T_range : mg "range" = none) : Mth P w K mg base (4) "Table" "turn" 3 (F_Table_turn mg) := by
  refine mth_mk (body := b_Table_turn mg) hm hc me Fd bd sc_Table_turn rfl (by decide) (fun cdv A outer s H E hgd hr => ?_) (law_Table_turn mg)
  have nd := sc_Table_turn.nd
  have hu64 := hr.units
  have hu65 := hu65 hr
  have hu1 := hu1 hr
  have hu2 := hu2 hr
  have hu0 := hr.units0
  exact (dss_cons (ds_set (i := 3) nd rfl (.inr rfl) (de_ix hu1 (de_ix hu1 (de_fld L_Table_rows (pv 0)) (de_var (pv 2)) (fun _ _ => rfl)) (de_var (pv 1)) (fun _ _ => rfl)) (by decide))
    (dss_cons (ds_store hu1 (de_lc (own := [("one", 5)]) rfl nd (di_seq (de_ix hu1 (de_fld L_Table_rows (pv 0)) (de_var (pv 2)) (fun _ _ => rfl))) (blkOk_by (N := ["self", "column", "k", "by", "j", "one"]) (sc := C8.fnScope s_Table_turn) (by decide +kernel)) (fun _ _ _ _ _ => (dg_name (i := 5) (pg_name (i := 5) nd rfl (by first | exact .inl rfl | exact .inr rfl)) (fun σ x => wipe_set x (by decide)))) (fun _ _ _ _ _ => dts_nil) (fun _ _ _ _ _ => (de_call h_over hgd hr (by decide) (by rfl) (da_cons (de_var (pv 5)) (da_cons (de_var (pv 3)) da_nil))))) (de_fld L_Table_rows (pv 0)) (de_var (pv 2)))
    (dss_cons (ds_for PassesOwn.never rfl (di_range1 (by rfl) T_range (da_consP (de_cb1 len_ok (by rfl) T_len (by decide +kernel) (de_fld L_Table_rows (pv 0))) da_nil)) (dg_name (i := 4) (pg_name (i := 4) nd rfl (.inl rfl)) (fun _ _ => take_set (by decide))) (dss_cons (ds_cut (ds_if (dt_cmp (ne_ok hu64) (nomark _) (de_var (pv 4)) (de_var (pv 2))) (dss_cons (ds_store hu1 (de_callP h_taken_off hgd hr (by decide) (by rfl) (da_consP (de_ix hu1 (de_fld L_Table_rows (pv 0)) (de_var (pv 4)) (fun _ _ => rfl)) (da_consP (de_ix hu1 (de_ix hu1 (de_fld L_Table_rows (pv 0)) (de_var (pv 4)) (fun _ _ => rfl)) (de_var (pv 1)) (fun _ _ => rfl)) (da_consP (de_ix hu1 (de_fld L_Table_rows (pv 0)) (de_var (pv 2)) (fun _ _ => rfl)) da_nil)))) (de_fld L_Table_rows (pv 0)) (de_var (pv 4)))
    dss_nil) dss_nil))
    (dss_kill [4] dss_nil)))
    (dss_cons (ds_fputZ L_Table_last (pv 0) (de_callP h_taken_off hgd hr (by decide) (by rfl) (da_consP (de_fld L_Table_last (pv 0)) (da_consP (de_ix hu1 (de_fld L_Table_last (pv 0)) (de_var (pv 1)) (fun _ _ => rfl)) (da_consP (de_ix hu1 (de_fld L_Table_rows (pv 0)) (de_var (pv 2)) (fun _ _ => rfl)) da_nil)))))
    (dss_cons (ds_store hu1 (de_var (pv 1)) (de_fld L_Table_held (pv 0)) (de_var (pv 2)))
    dss_nil)))))
abbrev s_Table_go : Stmt := inClass (topS 15) 3
theorem sc_Table_go : FnScope ["self", "helps", "column", "one"] ["self"] (C8.fnScope s_Table_go) := C8.fnScope_by (by decide +kernel)
def w_Table_go (self : Tb) (Q : Tb → Unit → Prop) : Prop :=
  ((ienum (cutL self.last none (some (-(1 : Int))))).length ≤ 10000000) ∧ bnd (((ienum (cutL self.last none (some (-(1 : Int))))).filter (fun p => decide (p.2.1 < (0 : Int)))).map (fun p => p.1)) fun helps =>
  wWhile2 self helps (fun self1 helps1 nx ex =>
  wIf (!decide (helps1 = ([] : List Int)))
  ((InR helps1 (0 : Int)) ∧ (InR helps1 (0 : Int)) ∧ w_Table_leaving self1 (gi helps1 (0 : Int)) fun self2 x =>
  w_Table_turn self2 (gi helps1 (0 : Int)) x fun self3 r_Table_turn =>
  ((ienum (cutL self3.last none (some (-(1 : Int))))).length ≤ 10000000) ∧ bnd (((ienum (cutL self3.last none (some (-(1 : Int))))).filter (fun p1 => decide (p1.2.1 < (0 : Int)))).map (fun p1 => p1.1)) fun helps2 =>
  nx self3 helps2)
  (ex self1 helps1))
  (fun (self1 : Tb) (helps1 : List Int) => Q self1 ())
theorem spec_Table_go {n m : Nat} {A : Nat → Nat → Bool} {Q : Tb → Unit → Prop} (hn : n ≤ 7) (hm : m ≤ 2000000) (cov : ∀ p < n, ∃ j < m, A j p = true)
    (q : ∀ R L H, Sx.Eqv m (n + m) (Sx.fstR n m A) (Sx.fstL n m) R L H → (∀ j < m, 0 ≤ R j (n + m)) → (∀ v < n + m, 0 ≤ L v) → Q (Sx.mkTb n m R L H) ()) : w_Table_go (Sx.mkTb n m (Sx.fstR n m A) (Sx.fstL n m) fun j => n + j) Q := by
  unfold w_Table_go
  have s0f : ∀ j < m, 0 ≤ Sx.fstR n m A j (n + m) := fun j _ => by rw [Sx.fst_last]; decide
  let s0 : Sx.TS := ⟨Sx.fstR n m A, Sx.fstL n m, fun j => n + j⟩
  have ok := Sx.iter_ok (m := m) (N := n + m) (s := s0) (R0 := Sx.fstR n m A) (L0 := Sx.fstL n m) Sx.fst_eqv s0f
  obtain ⟨T, hT⟩ := Sx.iter_ends (m := m) (N := n + m) (s := s0) (R0 := Sx.fstR n m A) (L0 := Sx.fstL n m) Sx.fst_eqv s0f
  have cl : ∀ {L : Nat → Rat}, (ienum (cutL (Sx.rowT (n + m) L) none (some (-(1 : Int))))).length ≤ 10000000 := Sx.cut_len (by omega)
  refine ⟨cl, ?_⟩
  rintro _ rfl
  refine ⟨fun d x helps => ∃ t, t + d = T ∧ x = Sx.mkTb n m (Sx.iter m (n + m) s0 t).R (Sx.iter m (n + m) s0 t).L (Sx.iter m (n + m) s0 t).H ∧ helps = (((List.range (n + m)).filter fun v => decide ((Sx.iter m (n + m) s0 t).L v < 0)).map fun v => ((v : Nat) : Int)), ⟨T, 0, by omega, rfl, Sx.helps_eq⟩, ?_⟩
  rintro d x helps ⟨t, ht, rfl, rfl⟩
  obtain ⟨E, fe⟩ := ok t
  have sm := Sx.eqv_sm hn E
  refine ⟨fun hb => ?_, fun hb => ?_⟩
  · have ne : (((List.range (n + m)).filter fun v => decide ((Sx.iter m (n + m) s0 t).L v < 0)).map fun v => ((v : Nat) : Int)) ≠ [] := fun e => by rw [e] at hb; simp at hb
    obtain ⟨c, hc, neg, least, eg, ir⟩ := Sx.helps_head ne
    refine ⟨ir, ir, ?_⟩
    rw [eg]
    refine spec_Table_leaving hc (fun j hj v => (sm.1 j hj v).mono (by omega)) (fun i hi j hj e => E.inj hi hj e) (Sx.gives_way E cov hc neg) fun k hk pk b => ?_
    have Tn : Sx.Turn m (n + m) (Sx.iter m (n + m) s0 t).R (Sx.iter m (n + m) s0 t).L (Sx.iter m (n + m) s0 t).H c k := ⟨hc, neg, least, hk, pk, b⟩
    refine spec_Table_turn (by omega) hc hk pk (fun j hj v => (sm.1 j hj v).mono (by omega)) (fun v => (sm.2 v).mono (by omega)) ?_
    have en : Sx.iter m (n + m) s0 (t + 1) = ⟨Sx.pivR (Sx.iter m (n + m) s0 t).R c k, Sx.pivL (Sx.iter m (n + m) s0 t).R (Sx.iter m (n + m) s0 t).L c k, Sx.pivH (Sx.iter m (n + m) s0 t).H c k⟩ := Sx.nxt_eq (fun i hi j hj e => E.inj hi hj e) Tn
    have tT : t ≠ T := fun e => hT ⟨(c, k), by rw [← e]; exact Tn⟩
    refine ⟨cl, ?_⟩
    rintro _ rfl
    refine ⟨d - 1, by omega, t + 1, by omega, by rw [en], ?_⟩
    rw [en]
    exact Sx.helps_eq
  · have e : (((List.range (n + m)).filter fun v => decide ((Sx.iter m (n + m) s0 t).L v < 0)).map fun v => ((v : Nat) : Int)) = [] := by simpa using hb
    exact q _ _ _ E fe (Sx.helps_none e)
def F_Table_go (mg : Str → Option Value) : FS := fun ts R => ∃ (self : Tb) (P : Tb → Unit → Prop), ts = [(self.T (clsOf mg "Table"))] ∧ w_Table_go self P ∧ ∀ (self_ : Tb) (r : Unit), P self_ r → R [some (self_.T (clsOf mg "Table"))] ((.fz (eN r)))
def b_Table_go (mg : Str → Option Value) : DTS := (dSeq (dSet 1 (dLc (iEnumD (dAConsP (dSlice (dFld (clsOf mg "Table") 0 "last") oNone (oSome (dUn negD (dConst (.fz (.int 1)))))) dNil)) (gT 2 (gsCons (gN 2) (gsCons (gN 3) gsNil))) (dVal (dBin (cmpI fun i j => decide (i < j)) true (dBin ixD true (dVar 3) (dConst (.fz (.int 0)))) (dConst (.fz (.int 0))))) (dVar 2) [2, 3]))
    (dSeq (dWhile (dVal (dBin neD true (dVar 1) (dLst dNil))) (dSeq (dExpr (dMth (clsOf mg "Table") 0 "turn" 3 (F_Table_turn mg) (dAConsP (dBin ixD true (dVar 1) (dConst (.fz (.int 0)))) (dACons (dMth (clsOf mg "Table") 0 "leaving" 2 (F_Table_leaving mg) (dAConsP (dBin ixD true (dVar 1) (dConst (.fz (.int 0)))) dNil)) dNil))))
    (dSeq (dSet 1 (dLc (iEnumD (dAConsP (dSlice (dFld (clsOf mg "Table") 0 "last") oNone (oSome (dUn negD (dConst (.fz (.int 1)))))) dNil)) (gT 2 (gsCons (gN 2) (gsCons (gN 3) gsNil))) (dVal (dBin (cmpI fun i j => decide (i < j)) true (dBin ixD true (dVar 3) (dConst (.fz (.int 0)))) (dConst (.fz (.int 0))))) (dVar 2) [2, 3]))
    dNext)))
    dNext))
set_option maxHeartbeats 4000000 in
theorem law_Table_go (mg : Str → Option Value) : ∀ ts R, ts.length = 1 → F_Table_go mg ts R → b_Table_go mg ⟨fun G => R (G.take 1) (.fz .non), retW 1 R⟩ (ts.map some ++ List.replicate ((["self", "helps", "column", "one"] : List Str).length - 1) none) := by
  rintro ts R - ⟨self, P, rfl, h, hR⟩
  unfold w_Table_go at h
  unfold b_Table_go
  refine q_env (G2 := [some (self.T (clsOf mg "Table")), none, none, none]) rfl ?_
  obtain ⟨q1, h⟩ := h
  refine p_setB (fun x => (tLs D.int x)) (G' := fun helps => [some (self.T (clsOf mg "Table")), some (tLs D.int helps), none, none]) h (sp_lc (eP D.int eF) (fun p => decide (p.2.1 < (0 : Int))) (fun p => p.1) D.int (fun p => [some (self.T (clsOf mg "Table")), none, some (.fz (D.int p.1)), some (.fz (eF p.2))]) (si_enum (e := eF) (sa_consP (sp_sliceL (e := eF) (sp_fld (i := 0) rfl (lk_s (by decide +kernel) (lk_s (by decide +kernel) lk_0))) rd_fz so_none (so_some (sp_un sp_con rd_fz k_neg) rd_fz)) fz_ls sa_nil)) q1 (fun p hx => (sg_pair (G' := [some (self.T (clsOf mg "Table")), none, some (.fz (D.int p.1)), some (.fz (eF p.2))]) (lt_l rfl) (lt_l rfl) rfl)) (fun p hx => (st_val (sp_bin (sp_bin (sp_var_fz (i := 3) rfl) rd_fz sp_con rd_fz k_ixF0) rd_fz sp_con rd_fz k_lt) rd_fz)) (fun p hx hp => ⟨_, (sp_var_fz (i := 2) rfl), fz_fz⟩) (fun _ => rfl) rfl) (lt_l rfl) (fun _ => rfl) fun helps h => ?_
  refine q_while2 (fun (self1 : Tb) (helps1 : List Int) => [some (self1.T (clsOf mg "Table")), some (tLs D.int helps1), none, none]) rfl h (fun self1 helps1 P X C D_ h hC hD => ?_) (fun self1 helps1 h => ?_)
  · refine (st_val (sp_bin (sp_var (i := 1) rfl trivial) (rd_pk rfl rfl) (sp_lst sa_nil rfl (Nat.le_of_ble_eq_true rfl)) rd_ls (k_ne (a := helps1) (b := ([] : List Int)) (ok_L ok_int) (Nat.le_of_ble_eq_true rfl))) rd_fz) _ ?_
    refine q_ite (fun hb => ?_) (fun hb => hD _ _ (h.2 hb))
    replace h := h.1 hb
    refine q_expr ?_
    refine q_mth rfl (lk_s (by decide +kernel) (lk_s (by decide +kernel) (lk_s (by decide +kernel) (lk_s (by decide +kernel) lk_n)))) ?_
    refine q_call ?_
    refine a_lend rfl ?_
    obtain ⟨q2, h⟩ := h
    refine a_consP (sp_bin (sp_var (i := 1) rfl trivial) (rd_pk rfl rfl) sp_con rd_fz (k_ixL (e := D.int) q2)) fz_fz ?_
    refine q_acons ?_
    refine q_mth rfl (lk_s (by decide +kernel) (lk_s (by decide +kernel) (lk_s (by decide +kernel) (lk_s (by decide +kernel) lk_n)))) ?_
    refine q_call ?_
    refine a_lend rfl ?_
    obtain ⟨q3, h⟩ := h
    refine a_consP (sp_bin (sp_var (i := 1) rfl trivial) (rd_pk rfl rfl) sp_con rd_fz (k_ixL (e := D.int) q3)) fz_fz ?_
    refine a_nil ?_
    refine c_fin1 (fun (p : Tb) => p.T (clsOf mg "Table")) (fun (x : Int) => (.fz (D.int x))) (fun (pp_ : Tb) => [some (pp_.T (clsOf mg "Table")), some (tLs D.int helps1), none, none]) rfl rfl (fun R hR => ⟨self1, (gi helps1 (0 : Int)), _, rfl, h, hR⟩) (fun _ => rfl) (fun self2 x h => ?_)
    refine w_acons fz_fz ?_
    refine a_nil ?_
    refine c_fin1 (fun (p : Tb) => p.T (clsOf mg "Table")) (fun (x : Unit) => (.fz (eN x))) (fun (pp_ : Tb) => [some (pp_.T (clsOf mg "Table")), some (tLs D.int helps1), none, none]) rfl rfl (fun R hR => ⟨self2, (gi helps1 (0 : Int)), x, _, rfl, h, hR⟩) (fun _ => rfl) (fun self3 r_Table_turn h => ?_)
    refine w_expr ?_
    obtain ⟨q4, h⟩ := h
    refine p_setB (fun x => (tLs D.int x)) (G' := fun helps2 => [some (self3.T (clsOf mg "Table")), some (tLs D.int helps2), none, none]) h (sp_lc (eP D.int eF) (fun p1 => decide (p1.2.1 < (0 : Int))) (fun p1 => p1.1) D.int (fun p1 => [some (self3.T (clsOf mg "Table")), some (tLs D.int helps1), some (.fz (D.int p1.1)), some (.fz (eF p1.2))]) (si_enum (e := eF) (sa_consP (sp_sliceL (e := eF) (sp_fld (i := 0) rfl (lk_s (by decide +kernel) (lk_s (by decide +kernel) lk_0))) rd_fz so_none (so_some (sp_un sp_con rd_fz k_neg) rd_fz)) fz_ls sa_nil)) q4 (fun p1 hx => (sg_pair (G' := [some (self3.T (clsOf mg "Table")), some (tLs D.int helps1), some (.fz (D.int p1.1)), some (.fz (eF p1.2))]) (lt_l rfl) (lt_l rfl) rfl)) (fun p1 hx => (st_val (sp_bin (sp_bin (sp_var_fz (i := 3) rfl) rd_fz sp_con rd_fz k_ixF0) rd_fz sp_con rd_fz k_lt) rd_fz)) (fun p1 hx hp => ⟨_, (sp_var_fz (i := 2) rfl), fz_fz⟩) (fun _ => rfl) rfl) (lt_l rfl) (fun _ => rfl) fun helps2 h => ?_
    exact hC _ _ h
  exact hR _ _ h
theorem ok_Table_go {f C : Addr} {fd : FuncData} (hm : mg "Table" = some (.ref C)) (hc : Cls K C) (me : Meth K C "go" f) (Fd : C8.Fun K "go" "Table.go" s_Table_go f fd) (bd : Binds K fd ["self"] []) (h_Table_turn : Mth P w K mg base 4 "Table" "turn" 3 (F_Table_turn mg)) (h_Table_leaving : Mth P w K mg base 3 "Table" "leaving" 2 (F_Table_leaving mg)) (L_Table_last : Fld K mg "Table" "last") (T_enumerate : mg "enumerate" = none) : Mth P w K mg base (5) "Table" "go" 1 (F_Table_go mg) := by
  refine mth_mk (body := b_Table_go mg) hm hc me Fd bd sc_Table_go rfl (by decide) (fun cdv A outer s H E hgd hr => ?_) (law_Table_go mg)
  have nd := sc_Table_go.nd
  have hu64 := hr.units
  have hu65 := hu65 hr
  have hu1 := hu1 hr
  have hu2 := hu2 hr
  have hu0 := hr.units0
  exact (dss_cons (ds_setLc (i := 1) (own := [("column", 2), ("one", 3)]) rfl nd rfl rfl (sw_true rfl rfl rfl (by decide +kernel)) (by decide) (di_enum (by rfl) T_enumerate (da_consP (de_slice (de_fld L_Table_last (pv 0)) do_none (do_some (de_un neg_ok de_int))) da_nil)) (blkOk_by (N := ["self", "helps", "column", "one"]) (sc := C8.fnScope s_Table_go) (by decide +kernel)) (fun _ _ _ _ _ => (dg_tup rfl (dgs_cons (dg_name (i := 2) (pg_name (i := 2) nd rfl (by first | exact .inl rfl | exact .inr rfl)) (fun σ x => wipe_set x (by decide))) (dgs_cons (dg_name (i := 3) (pg_name (i := 3) nd rfl (by first | exact .inl rfl | exact .inr rfl)) (fun σ x => wipe_set x (by decide))) dgs_nil)))) (fun _ _ _ _ _ => (dts_one (dt_cmp lt_ok (nomark _) (de_ix hu1 (de_var (pv 3)) de_int (fun _ _ => rfl)) de_int))) (fun _ _ _ _ _ => (de_var (pv 2))))
    (dss_cons (ds_while PassesOwn.never (dt_cmp (ne_ok hu64) (nomark _) (de_var (pv 1)) (de_lst da_nil)) (dss_cons (ds_expr (de_mth h_Table_turn hgd hr (by decide) (pv 0) (da_consP (de_ix hu1 (de_var (pv 1)) de_int (fun _ _ => rfl)) (da_cons (de_mth h_Table_leaving hgd hr (by decide) (pv 0) (da_consP (de_ix hu1 (de_var (pv 1)) de_int (fun _ _ => rfl)) da_nil)) da_nil))))
    (dss_cons (ds_setLc (i := 1) (own := [("column", 2), ("one", 3)]) rfl nd rfl rfl (sw_true rfl rfl rfl (by decide +kernel)) (by decide) (di_enum (by rfl) T_enumerate (da_consP (de_slice (de_fld L_Table_last (pv 0)) do_none (do_some (de_un neg_ok de_int))) da_nil)) (blkOk_by (N := ["self", "helps", "column", "one"]) (sc := C8.fnScope s_Table_go) (by decide +kernel)) (fun _ _ _ _ _ => (dg_tup rfl (dgs_cons (dg_name (i := 2) (pg_name (i := 2) nd rfl (by first | exact .inl rfl | exact .inr rfl)) (fun σ x => wipe_set x (by decide))) (dgs_cons (dg_name (i := 3) (pg_name (i := 3) nd rfl (by first | exact .inl rfl | exact .inr rfl)) (fun σ x => wipe_set x (by decide))) dgs_nil)))) (fun _ _ _ _ _ => (dts_one (dt_cmp lt_ok (nomark _) (de_ix hu1 (de_var (pv 3)) de_int (fun _ _ => rfl)) de_int))) (fun _ _ _ _ _ => (de_var (pv 2))))
    dss_nil)))
    dss_nil))
abbrev s_shares : Stmt := topS 17
theorem sc_shares : FnScope ["web", "sets", "table", "weights", "cover", "k", "column", "places"] ["web"] (C8.fnScope s_shares) := C8.fnScope_by (by decide +kernel)
def w_shares (web : Int × (List (Int × Int))) (Q : ((Int × Int) × (List ((List Int) × (Int × Int))) × (List (Int × Int))) → Prop) : Prop :=
  (webP web) ∧ (knotsP (turnedF web)) ∧ ((fullF (turnedF web)).length ≤ 10000000) ∧ bnd (((fullF (turnedF web)).filter (fun places => !decide (places = ([] : List Int)))).map (fun places => places)) fun sets =>
  w_Table___init__ web.1 sets fun r_Table _ =>
  w_Table_go r_Table fun table r_Table_go =>
  (-(2 ^ 63) ≤ web.1 ∧ web.1 ≤ 10000000) ∧ bnd (List.replicate (web.1).toNat ((0, 1) : Int × Int)) fun weights =>
  wFor1 (ienum table.held) weights (fun weights1 (p : Int × Int) nx =>
  wJ1 (fun j1 =>
  wIf (decide (p.2 < web.1))
  ((InR table.rows p.1) ∧ (InR (gi table.rows p.1) (-(1 : Int))) ∧ (0 ≤ p.2 ∧ p.2 < weights1.length) ∧ bnd (weights1.set (p.2).toNat (gi (gi table.rows p.1) (-(1 : Int)))) fun weights3 =>
  j1 weights3)
  (j1 weights1))
  (fun (weights2 : List (Int × Int)) => nx weights2))
  (fun (weights1 : List (Int × Int)) => ((ienum sets).length ≤ 10000000) ∧ (∀ p1 ∈ ienum sets, ((InR table.last (web.1 + p1.1))) ∧ (((decide ((0 : Int) < (gi table.last (web.1 + p1.1)).1)) = true → (InR table.last (web.1 + p1.1))))) ∧ bnd (((ienum sets).filter (fun p1 => decide ((0 : Int) < (gi table.last (web.1 + p1.1)).1))).map (fun p1 => (p1.2, gi table.last (web.1 + p1.1)))) fun cover =>
  (InR table.last (-(1 : Int))) ∧ Q (gi table.last (-(1 : Int)), cover, weights1))
theorem spec_shares {w : Web} {Q : (Int × Int) × List (List Int × (Int × Int)) × List (Int × Int) → Prop} (hw : IsWeb w) (h7 : w.1 ≤ 7)
    (q : ∀ x C W, ShOk w x C W → Q (qF x, C.map (fun p => (p.1, qF p.2)), W.map qF)) : w_shares w Q := by
  obtain ⟨n0, ties⟩ := w
  obtain ⟨n, rfl⟩ : ∃ n : Nat, n0 = (n : Int) := Int.eq_ofNat_of_zero_le hw.n0
  have h7 : (n : Int) ≤ 7 := h7
  have tw := turnedF_web hw
  have kp : knotsP (turnedF ((n : Int), ties)) := ⟨tw, by show (n : Int) ≤ 20; omega⟩
  have fl := fullF_len kp
  unfold w_shares
  refine ⟨⟨hw, by show (n : Int) ≤ 24; omega⟩, kp, by omega, ?_⟩
  intro sets esets
  have esets : sets = (fullF (turnedF ((n : Int), ties))).filter fun places => !decide (places = []) := by rw [esets]; exact List.map_id' _
  have es : ∀ k, k ∈ sets ↔ k ∈ fullF (turnedF ((n : Int), ties)) ∧ k ≠ [] := fun k => by rw [esets, List.mem_filter]; simp
  have ml : sets.length ≤ 1048576 := by rw [esets]; exact Nat.le_trans (List.length_filter_le ..) fl
  refine spec_Table___init__ (by omega) (by omega) ?_
  refine spec_Table_go (by omega) (by omega) (fun p hp => ?_) fun R L H E fe no => ?_
  · obtain ⟨f, mf, sub⟩ := knot_in_full tw (k := [(p : Int)]) ((isK.nil (turnedF ((n : Int), ties)) (n : Int)).snoc (v := (p : Int)) (by omega) (by omega) (fun _ m => nomatch m) fun _ m => nomatch m)
    have mp : (p : Int) ∈ f := sub _ (by simp)
    obtain ⟨j, hj, ej⟩ := List.getElem_of_mem ((es f).mpr ⟨mf, fun z => by rw [z] at mp; exact nomatch mp⟩)
    exact ⟨j, hj, by unfold inA; rw [gi_nat hj, ej]; exact inl_iff.mpr mp⟩
  have ok := Sx.sh_ok (A := inA sets) hw (n := n) rfl (by omega) es rfl (fun _ _ => rfl) E fe no
  have sm := Sx.eqv_sm (by omega) E
  refine ⟨by show -(2 ^ 63) ≤ (n : Int) ∧ (n : Int) ≤ 10000000; omega, ?_⟩
  rintro _ rfl
  refine wFor1_inv (fun pre ws => ws = (List.range n).map fun p => qF (Sx.sumQ pre.length fun k => if H k = p then R k (n + sets.length) else 0)) ?_ ?_ ?_
  · show List.replicate (n : Int).toNat ((0, 1) : Int × Int) = _
    refine (List.eq_replicate_iff.mpr ⟨by simp, fun b hb => ?_⟩).symm
    obtain ⟨v, _, rfl⟩ := List.mem_map.mp hb
    rfl
  · rintro _ rfl
    have eh : (ienum (Sx.mkTb n sets.length R L H).held).length = sets.length := by rw [ienum_length, Sx.tb_held_len]
    rw [eh]
    have lt : (Sx.mkTb n sets.length R L H).last = Sx.rowT (n + sets.length) L := rfl
    have inr : ∀ p ∈ ienum sets, InR (Sx.mkTb n sets.length R L H).last ((n : Int) + p.1) ∧ gi (Sx.mkTb n sets.length R L H).last ((n : Int) + p.1) = qF (L (n + p.1.toNat)) := fun p hp => by
      obtain ⟨h0, h1, _⟩ := mem_ienum.mp hp
      obtain ⟨j, e⟩ := Int.eq_ofNat_of_zero_le h0
      rw [lt, e, show (n : Int) + (j : Int) = ((n + j : Nat) : Int) by omega, show ((j : Int)).toNat = j by omega]
      exact ⟨Sx.rowT_in (by omega), Sx.rowT_gi (by omega)⟩
    refine ⟨by rw [ienum_length]; omega, fun p hp => ⟨(inr p hp).1, fun _ => (inr p hp).1⟩, ?_⟩
    intro cover ecover
    refine ⟨by rw [lt]; exact Sx.rowT_inL, ?_⟩
    have qq := q _ _ _ ok
    rw [lt, Sx.rowT_last]
    have e1 : cover = (((List.range sets.length).filter fun j => decide (0 < L (n + j))).map fun j : Nat => (gi sets (j : Int), L (n + j))).map fun p => (p.1, qF p.2) := by
      rw [ecover, List.map_map]
      have e2 : ienum sets = (List.range sets.length).map fun j => (((j : Nat) : Int), gi sets (j : Int)) := Sx.ienum_gi
      rw [List.map_congr_left (g := fun p : Int × List Int => (p.2, qF (L (n + p.1.toNat)))) fun p hp => by rw [show ((n : Int), ties).1 = (n : Int) from rfl, (inr p (List.mem_filter.mp hp).1).2]]
      rw [List.filter_congr (q := fun p : Int × List Int => decide (0 < L (n + p.1.toNat))) fun p hp => by
        show decide (0 < (gi (Sx.mkTb n sets.length R L H).last ((n : Int) + p.1)).1) = _
        rw [(inr p hp).2, decide_eq_decide]; exact Sx.num_pos_iff]
      rw [e2, List.filter_map, List.map_map]
      have e3 : ∀ j : Nat, ((j : Int)).toNat = j := fun j => by omega
      rw [List.filter_congr (q := fun j => decide (0 < L (n + j))) fun j _ => by show decide (0 < L (n + ((j : Int)).toNat)) = _; rw [e3]]
      refine List.map_congr_left fun j _ => ?_
      show (gi sets (j : Int), qF (L (n + ((j : Int)).toNat))) = (gi sets (j : Int), qF (L (n + j)))
      rw [e3]
    have e4 : ((List.range n).map fun p => qF (Sx.sumQ sets.length fun k => if H k = p then R k (n + sets.length) else 0)) = ((List.range n).map fun p => Sx.wt n sets.length R H p).map qF := by
      rw [List.map_map]; rfl
    rw [e1, e4]
    exact qq
  · rintro pre x post _ C e rfl c
    obtain ⟨h1, h2, h3⟩ := ienum_at e
    rw [Sx.tb_held_len] at h1
    have ex2 : x.2 = ((H pre.length : Nat) : Int) := by
      have g := Sx.tb_held (n := n) (R := R) (L := L) (H := H) h1
      rw [gi_nat (by rw [Sx.tb_held_len]; exact h1)] at g
      rw [List.getElem?_eq_getElem (by rw [Sx.tb_held_len]; exact h1)] at h3
      rw [← Option.some.inj h3, g]
    rw [ex2, h2]
    have lp : (pre ++ [x]).length = pre.length + 1 := by simp
    refine wJ1.mk ⟨fun hb => ?_, fun hb => ?_⟩
    · have hb : ((H pre.length : Nat) : Int) < (n : Int) := of_decide_eq_true hb
      have hb : H pre.length < n := by omega
      rw [Sx.tb_row h1, Sx.rowT_last]
      refine ⟨by unfold InR; rw [Sx.tb_rows_len]; omega, Sx.rowT_inL, by simp; omega, ?_⟩
      rintro _ rfl
      refine c _ ?_
      rw [show ((H pre.length : Nat) : Int).toNat = H pre.length by omega, Sx.range_set hb, lp]
      refine Sx.range_congr fun p hp => ?_
      show _ = qF (Sx.sumQ pre.length (fun k => if H k = p then R k (n + sets.length) else 0) + if H pre.length = p then R pre.length (n + sets.length) else 0)
      by_cases z : p = H pre.length
      · rw [if_pos z, if_pos z.symm, Sx.sumQ_zero fun k hk => if_neg fun y => by
          have := E.inj (by omega) h1 (y.trans z); omega]
        congr 1; grind
      · rw [if_neg z, if_neg (Ne.symm z)]
        congr 1; grind
    · have hb : ¬ ((H pre.length : Nat) : Int) < (n : Int) := of_decide_eq_false hb
      refine c _ ?_
      rw [lp]
      refine Sx.range_congr fun p hp => ?_
      show _ = qF (Sx.sumQ pre.length (fun k => if H k = p then R k (n + sets.length) else 0) + if H pre.length = p then R pre.length (n + sets.length) else 0)
      rw [if_neg (by omega)]
      congr 1; grind
def F_shares : FS := fun ts R => ∃ (web : Int × (List (Int × Int))) (P : ((Int × Int) × (List ((List Int) × (Int × Int))) × (List (Int × Int))) → Prop), ts = [(.fz ((eP D.int (eU (eP D.int D.int))) web))] ∧ w_shares web P ∧ ∀ (r : (Int × Int) × (List ((List Int) × (Int × Int))) × (List (Int × Int))), P  r → R [] ((.tu [.fz (eF r.1), .ls (r.2.1.map (eP (eU D.int) eF)), .fz ((eU eF) r.2.2)]))
def b_shares (mg : Str → Option Value) : DTS := (dSeq (dSet 1 (dLc (iSeqD (dCall 1 F_full_knots (dACons (dCall 1 F_turned (dACons (dVar 0) dNil)) dNil))) (gN 7) (dVal (dBin neD true (dVar 7) (dTup dNil))) (dVar 7) [7]))
    (dSeq (dFrz 1) (dSeq (dSet 2 (dMake (clsOf mg "Table") 3 (F_Table___init__ mg) (dAConsP (dBin ixD true (dVar 0) (dConst (.fz (.int 0)))) (dACons (dVar 1) dNil))))
    (dSeq (dExpr (dMth (clsOf mg "Table") 2 "go" 1 (F_Table_go mg) dNil))
    (dSeq (dSet 3 (dBin mulD true (dLst (dACons (dConst (.fz (.ctup [.int (0), .int (1)]))) dNil)) (dBin ixD true (dVar 0) (dConst (.fz (.int 0))))))
    (dSeq (dForEF (dFld (clsOf mg "Table") 2 "held") (gT 2 (gsCons (gN 5) (gsCons (gN 6) gsNil))) (dSeq (dCut (dIf (dVal (dBin (cmpI fun i j => decide (i < j)) true (dVar 6) (dBin ixD true (dVar 0) (dConst (.fz (.int 0)))))) (dSeq (dStore true (dBin ixD true (dBin ixD true (dFld (clsOf mg "Table") 2 "rows") (dVar 5)) (dUn negD (dConst (.fz (.int 1))))) (dVar 3) (dVar 6))
    dNext) dNext))
    (dSeq (dKill [5, 6]) dNext)))
    (dSeq (dSet 4 (dLc (iEnumD (dACons (dVar 1) dNil)) (gT 2 (gsCons (gN 5) (gsCons (gN 7) gsNil))) (dVal (dBin (cmpI fun i j => decide (j < i)) true (dBin ixD true (dBin ixD true (dFld (clsOf mg "Table") 2 "last") (dBin addD true (dBin ixD true (dVar 0) (dConst (.fz (.int 0)))) (dVar 5))) (dConst (.fz (.int 0)))) (dConst (.fz (.int 0))))) (dTup (dACons (dVar 7) (dAConsP (dBin ixD true (dFld (clsOf mg "Table") 2 "last") (dBin addD true (dBin ixD true (dVar 0) (dConst (.fz (.int 0)))) (dVar 5))) dNil))) [5, 7]))
    (dRet (dTupM (dBin ixD true (dFld (clsOf mg "Table") 2 "last") (dUn negD (dConst (.fz (.int 1))))) (dVar 4) (dCB1 (fun y R => tupleD [y] R) (dVar 3)))))))))))
set_option maxHeartbeats 4000000 in
theorem law_shares (mg : Str → Option Value) : ∀ ts R, ts.length = 1 → F_shares ts R → b_shares mg ⟨fun G => R (G.take 0) (.fz .non), retW 0 R⟩ (ts.map some ++ List.replicate ((["web", "sets", "table", "weights", "cover", "k", "column", "places"] : List Str).length - 1) none) := by
  rintro ts R - ⟨web, P, rfl, h, hR⟩
  unfold w_shares at h
  unfold b_shares
  refine q_env (G2 := [some (.fz ((eP D.int (eU (eP D.int D.int))) web)), none, none, none, none, none, none, none]) rfl ?_
  obtain ⟨q1, q2, q3, h⟩ := h
  refine p_setB (fun x => (tLs (eU D.int) x)) (G' := fun sets => [some (.fz ((eP D.int (eU (eP D.int D.int))) web)), some (tLs (eU D.int) sets), none, none, none, none, none, none]) h (sp_lc (eU D.int) (fun places => !decide (places = ([] : List Int))) (fun places => places) (eU D.int) (fun places => [some (.fz ((eP D.int (eU (eP D.int D.int))) web)), none, none, none, none, none, none, some (.fz ((eU D.int) places))]) (si_seqL (sp_call (sa_cons (sp_call (sa_cons (sp_var_fz (i := 0) rfl) fz_fz sa_nil) rfl rfl (fun R hR => ⟨web, rfl, q1, hR⟩)) fz_fz sa_nil) rfl rfl (fun R hR => ⟨(turnedF web), rfl, q2, hR⟩)) fz_ls) q3 (fun places hx => (sg_name (G' := [some (.fz ((eP D.int (eU (eP D.int D.int))) web)), none, none, none, none, none, none, some (.fz ((eU D.int) places))]) (lt_l rfl) rfl)) (fun places hx => (st_val (sp_bin (sp_var_fz (i := 7) rfl) rd_fz (sp_tup sa_nil rfl (Nat.le_of_ble_eq_true rfl)) rd_fz (k_ne (a := places) (b := ([] : List Int)) (ok_U ok_int) (Nat.le_of_ble_eq_true rfl))) rd_fz)) (fun places hx hp => ⟨_, (sp_var_fz (i := 7) rfl), fz_fz⟩) (fun _ => rfl) rfl) (lt_l rfl) (fun _ => rfl) fun sets h => ?_
  refine p_frz (i := 1) (G' := [some (.fz ((eP D.int (eU (eP D.int D.int))) web)), some (.fz ((eL (eU D.int)) sets)), none, none, none, none, none, none]) rfl rfl rfl ?_
  refine q_set ?_
  refine q_make ?_
  refine a_consP (sp_bin (sp_var_fz (i := 0) rfl) rd_fz sp_con rd_fz k_ix0) fz_fz ?_
  refine a_cons (sp_var_fz (i := 1) rfl) fz_fz ?_
  refine a_nil ?_
  refine c_make (fun (x : Tb) => x.T (clsOf mg "Table")) rfl rfl (fun R hR => ⟨web.1, sets, _, rfl, h, hR⟩) (fun r_Table h => ?_)
  refine w_set (G' := [some (.fz ((eP D.int (eU (eP D.int D.int))) web)), some (.fz ((eL (eU D.int)) sets)), some (r_Table.T (clsOf mg "Table")), none, none, none, none, none]) (lt_l rfl) rfl ?_
  refine q_expr ?_
  refine q_mth rfl (lk_s (by decide +kernel) (lk_s (by decide +kernel) (lk_s (by decide +kernel) (lk_s (by decide +kernel) lk_n)))) ?_
  refine q_call ?_
  refine a_lend rfl ?_
  refine a_nil ?_
  refine c_fin1 (fun (p : Tb) => p.T (clsOf mg "Table")) (fun (x : Unit) => (.fz (eN x))) (fun (pp_ : Tb) => [some (.fz ((eP D.int (eU (eP D.int D.int))) web)), some (.fz ((eL (eU D.int)) sets)), some (pp_.T (clsOf mg "Table")), none, none, none, none, none]) rfl rfl (fun R hR => ⟨r_Table, _, rfl, h, hR⟩) (fun _ => rfl) (fun table r_Table_go h => ?_)
  refine w_expr ?_
  obtain ⟨q4, h⟩ := h
  refine p_setB (fun x => (tLs eF x)) (G' := fun weights => [some (.fz ((eP D.int (eU (eP D.int D.int))) web)), some (.fz ((eL (eU D.int)) sets)), some (table.T (clsOf mg "Table")), some (tLs eF weights), none, none, none, none]) h (sp_bin (sp_lst (sa_cons sp_con fz_fz sa_nil) rfl (Nat.le_of_ble_eq_true rfl)) rd_ls (sp_bin (sp_var_fz (i := 0) rfl) rd_fz sp_con rd_fz k_ix0) rd_fz (k_rep1 (e := eF) q4)) (lt_l rfl) (fun _ => rfl) fun weights h => ?_
  refine p_forEF (e := D.int) rfl (lk_s (by decide +kernel) (lk_s (by decide +kernel) (lk_s (by decide +kernel) lk_0))) (fun qv_ => (setL_s (by decide +kernel) (setL_s (by decide +kernel) (setL_s (by decide +kernel) setL_0)))) (G' := fun qv_ => [some (.fz ((eP D.int (eU (eP D.int D.int))) web)), some (.fz ((eL (eU D.int)) sets)), some (.ins (clsOf mg "Table") [("many", (.fz (D.int table.many))), ("rows", (tLs (eL eF) table.rows)), ("last", (.fz ((eL eF) table.last))), ("held", .fz (.opq qv_))]), some (tLs eF weights), none, none, none, none]) (fun qv_ => rfl) (fun qv_ => ?_)
  refine q_for1 (eP D.int D.int) (fun (weights1 : List (Int × Int)) => [some (.fz ((eP D.int (eU (eP D.int D.int))) web)), some (.fz ((eL (eU D.int)) sets)), some (.ins (clsOf mg "Table") [("many", (.fz (D.int table.many))), ("rows", (tLs (eL eF) table.rows)), ("last", (.fz ((eL eF) table.last))), ("held", .fz (.opq qv_))]), some (tLs eF weights1), none, none, none, none]) si_lit rfl h (fun weights1 p P C h hC => ?_) (fun weights1 h => ?_)
  · refine (sg_pair (G' := [some (.fz ((eP D.int (eU (eP D.int D.int))) web)), some (.fz ((eL (eU D.int)) sets)), some (.ins (clsOf mg "Table") [("many", (.fz (D.int table.many))), ("rows", (tLs (eL eF) table.rows)), ("last", (.fz ((eL eF) table.last))), ("held", .fz (.opq qv_))]), some (tLs eF weights1), none, some (.fz (D.int p.1)), some (.fz (D.int p.2)), none]) (lt_l rfl) (lt_l rfl) rfl) _ ?_
    refine q_cut1 (fun (weights2 : List (Int × Int)) => [some (.fz ((eP D.int (eU (eP D.int D.int))) web)), some (.fz ((eL (eU D.int)) sets)), some (.ins (clsOf mg "Table") [("many", (.fz (D.int table.many))), ("rows", (tLs (eL eF) table.rows)), ("last", (.fz ((eL eF) table.last))), ("held", .fz (.opq qv_))]), some (tLs eF weights2), none, some (.fz (D.int p.1)), some (.fz (D.int p.2)), none]) h (fun j1 h => ?_) (fun weights2 h => ?_)
    · refine p_if (st_val (sp_bin (sp_var_fz (i := 6) rfl) rd_fz (sp_bin (sp_var_fz (i := 0) rfl) rd_fz sp_con rd_fz k_ix0) rd_fz k_lt) rd_fz) (fun hb => ?_) (fun hb => ?_)
      · replace h := h.1 hb
        obtain ⟨q5, q6, q7, h⟩ := h
        obtain ⟨weights3, e_weights3, h⟩ := h.get
        refine p_stoL (e := eF) (x := gi (gi table.rows p.1) (-(1 : Int))) rfl (sp_bin (sp_bin (sp_fldP (i := 2) rfl (lk_s (by decide +kernel) lk_0) trivial) (rd_pf rfl (lk_s (by decide +kernel) lk_0) rfl) (sp_var_fz (i := 5) rfl) rd_fz (k_ixL (e := (eL eF)) q5)) rd_fz (sp_un sp_con rd_fz k_neg) rd_fz (k_ixL (e := eF) q6)) fz_fz (sp_var_fz (i := 6) rfl) rd_fz q7 (G' := [some (.fz ((eP D.int (eU (eP D.int D.int))) web)), some (.fz ((eL (eU D.int)) sets)), some (.ins (clsOf mg "Table") [("many", (.fz (D.int table.many))), ("rows", (tLs (eL eF) table.rows)), ("last", (.fz ((eL eF) table.last))), ("held", .fz (.opq qv_))]), some (tLs eF weights3), none, some (.fz (D.int p.1)), some (.fz (D.int p.2)), none]) (by subst e_weights3; rfl) ?_
        exact ⟨_, h, rfl⟩
      · replace h := h.2 hb
        exact ⟨_, h, rfl⟩
    refine p_kill (G' := [some (.fz ((eP D.int (eU (eP D.int D.int))) web)), some (.fz ((eL (eU D.int)) sets)), some (.ins (clsOf mg "Table") [("many", (.fz (D.int table.many))), ("rows", (tLs (eL eF) table.rows)), ("last", (.fz ((eL eF) table.last))), ("held", .fz (.opq qv_))]), some (tLs eF weights2), none, none, none, none]) rfl ?_
    exact hC _ h
  refine w_endEF (G3 := [some (.fz ((eP D.int (eU (eP D.int D.int))) web)), some (.fz ((eL (eU D.int)) sets)), some (table.T (clsOf mg "Table")), some (tLs eF weights1), none, none, none, none]) rfl (lk_s (by decide +kernel) (lk_s (by decide +kernel) (lk_s (by decide +kernel) lk_0))) (setL_s (by decide +kernel) (setL_s (by decide +kernel) (setL_s (by decide +kernel) setL_0))) rfl ?_
  obtain ⟨q8, q11, h⟩ := h
  refine p_setB (fun x => (tLs (eP (eU D.int) eF) x)) (G' := fun cover => [some (.fz ((eP D.int (eU (eP D.int D.int))) web)), some (.fz ((eL (eU D.int)) sets)), some (table.T (clsOf mg "Table")), some (tLs eF weights1), some (tLs (eP (eU D.int) eF) cover), none, none, none]) h (sp_lc (eP D.int (eU D.int)) (fun p1 => decide ((0 : Int) < (gi table.last (web.1 + p1.1)).1)) (fun p1 => (p1.2, gi table.last (web.1 + p1.1))) (eP (eU D.int) eF) (fun p1 => [some (.fz ((eP D.int (eU (eP D.int D.int))) web)), some (.fz ((eL (eU D.int)) sets)), some (table.T (clsOf mg "Table")), some (tLs eF weights1), none, some (.fz (D.int p1.1)), none, some (.fz ((eU D.int) p1.2))]) (si_enum (e := (eU D.int)) (sa_cons (sp_var_fz (i := 1) rfl) fz_fz sa_nil)) q8 (fun p1 hx => (sg_pair (G' := [some (.fz ((eP D.int (eU (eP D.int D.int))) web)), some (.fz ((eL (eU D.int)) sets)), some (table.T (clsOf mg "Table")), some (tLs eF weights1), none, some (.fz (D.int p1.1)), none, some (.fz ((eU D.int) p1.2))]) (lt_l rfl) (lt_l rfl) rfl)) (fun p1 hx => (have q9 := (q11 p1 hx).1; (st_val (sp_bin (sp_bin (sp_bin (sp_fld (i := 2) rfl (lk_s (by decide +kernel) (lk_s (by decide +kernel) lk_0))) rd_fz (sp_bin (sp_bin (sp_var_fz (i := 0) rfl) rd_fz sp_con rd_fz k_ix0) rd_fz (sp_var_fz (i := 5) rfl) rd_fz k_add) rd_fz (k_ixL (e := eF) q9)) rd_fz sp_con rd_fz k_ixF0) rd_fz sp_con rd_fz k_gt) rd_fz))) (fun p1 hx hp => (have q10 := (q11 p1 hx).2 hp; ⟨_, (sp_tup (sa_cons (sp_var_fz (i := 7) rfl) fz_fz (sa_consP (sp_bin (sp_fld (i := 2) rfl (lk_s (by decide +kernel) (lk_s (by decide +kernel) lk_0))) rd_fz (sp_bin (sp_bin (sp_var_fz (i := 0) rfl) rd_fz sp_con rd_fz k_ix0) rd_fz (sp_var_fz (i := 5) rfl) rd_fz k_add) rd_fz (k_ixL (e := eF) q10)) fz_fz sa_nil)) rfl (Nat.le_of_ble_eq_true rfl)), fz_fz⟩)) (fun _ => rfl) rfl) (lt_l rfl) (fun _ => rfl) fun cover h => ?_
  obtain ⟨q12, h⟩ := h
  refine q_ret ?_
  exact q_tupM (sp_bin (sp_fld (i := 2) rfl (lk_s (by decide +kernel) (lk_s (by decide +kernel) lk_0))) rd_fz (sp_un sp_con rd_fz k_neg) rd_fz (k_ixL (e := eF) q12)) fz_fz (sp_var (i := 4) rfl trivial) (tk_pk (G' := [some (.fz ((eP D.int (eU (eP D.int D.int))) web)), some (.fz ((eL (eU D.int)) sets)), some (table.T (clsOf mg "Table")), some (tLs eF weights1), none, none, none, none]) rfl rfl) (sp_cb1 (sp_var (i := 3) rfl trivial) (rd_pk rfl rfl) k_tupL) fz_fz (hR _ h)
theorem ok_shares {f : Addr} {fd : FuncData} (Fd : C8.Def K mg "shares" s_shares f fd) (bd : Binds K fd ["web"] []) (h_full_knots : Fn P w K mg base 4 "full_knots" 1 0 F_full_knots) (h_turned : Fn P w K mg base 2 "turned" 1 0 F_turned) (h_Table___init__ : Ini P w K mg base 2 "Table" 3 (F_Table___init__ mg)) (h_Table_go : Mth P w K mg base 5 "Table" "go" 1 (F_Table_go mg)) (L_Table_held : Fld K mg "Table" "held") (L_Table_rows : Fld K mg "Table" "rows") (L_Table_last : Fld K mg "Table" "last") (T_NONE : KPr K mg "NONE" (0) (1)) (T_enumerate : mg "enumerate" = none) (T_tuple : mg "tuple" = none) : Fn P w K mg base 6 "shares" 1 0 F_shares := by
  refine fn_mk (body := b_shares mg) Fd bd sc_shares rfl (by decide) (fun cdv A outer s H E hgd hr => ?_) (law_shares mg)
  have nd := sc_shares.nd
  have hu64 := hr.units
  have hu65 := hu65 hr
  have hu1 := hu1 hr
  have hu2 := hu2 hr
  have hu0 := hr.units0
  exact (dss_cons (ds_setLc (i := 1) (own := [("places", 7)]) rfl nd rfl rfl (sw_true rfl rfl rfl (by decide +kernel)) (by decide) (di_seq (de_call h_full_knots hgd hr (by decide) (by rfl) (da_cons (de_call h_turned hgd hr (by decide) (by rfl) (da_cons (de_var (pv 0)) da_nil)) da_nil))) (blkOk_by (N := ["web", "sets", "table", "weights", "cover", "k", "column", "places"]) (sc := C8.fnScope s_shares) (by decide +kernel)) (fun _ _ _ _ _ => (dg_name (i := 7) (pg_name (i := 7) nd rfl (by first | exact .inl rfl | exact .inr rfl)) (fun σ x => wipe_set x (by decide)))) (fun _ _ _ _ _ => (dts_one (dt_cmp (ne_ok hu64) (nomark _) (de_var (pv 7)) (de_tup da_nil)))) (fun _ _ _ _ _ => (de_var (pv 7))))
    (dss_frz 1 (dss_cons (ds_set (i := 2) nd rfl (.inr rfl) (de_make h_Table___init__ hgd hr (by decide) (by rfl) (da_consP (de_ix hu1 (de_var (pv 0)) de_int (fun _ _ => rfl)) (da_cons (de_var (pv 1)) da_nil))) (by decide))
    (dss_cons (ds_expr (de_mth0 h_Table_go hgd hr (by decide) (pv 2)))
    (dss_cons (ds_set (i := 3) nd rfl (.inl rfl) (de_bin mul_ok (de_lst (da_cons (de_kt (by rfl) T_NONE) da_nil)) (de_ix hu1 (de_var (pv 0)) de_int (fun _ _ => rfl))) (by decide))
    (dss_cons (ds_forEF PassesOwn.never rfl (by rfl) T_enumerate (de_fld L_Table_held (pv 2)) (dg_tup rfl (dgs_cons (dg_name (i := 5) (pg_name (i := 5) nd rfl (.inl rfl)) (fun _ _ => take_set (by decide))) (dgs_cons (dg_name (i := 6) (pg_name (i := 6) nd rfl (.inl rfl)) (fun _ _ => take_set (by decide))) dgs_nil))) (dss_cons (ds_cut (ds_if (dt_cmp lt_ok (nomark _) (de_var (pv 6)) (de_ix hu1 (de_var (pv 0)) de_int (fun _ _ => rfl))) (dss_cons (ds_store hu1 (de_ix hu1 (de_ix hu1 (de_fld L_Table_rows (pv 2)) (de_var (pv 5)) (fun _ _ => rfl)) (de_un neg_ok de_int) (fun _ _ => rfl)) (de_var (pv 3)) (de_var (pv 6)))
    dss_nil) dss_nil))
    (dss_kill [5, 6] dss_nil)))
    (dss_cons (ds_setLc (i := 4) (own := [("k", 5), ("places", 7)]) rfl nd rfl rfl (sw_true rfl rfl rfl (by decide +kernel)) (by decide) (di_enum (by rfl) T_enumerate (da_cons (de_var (pv 1)) da_nil)) (blkOk_by (N := ["web", "sets", "table", "weights", "cover", "k", "column", "places"]) (sc := C8.fnScope s_shares) (by decide +kernel)) (fun _ _ _ _ _ => (dg_tup rfl (dgs_cons (dg_name (i := 5) (pg_name (i := 5) nd rfl (by first | exact .inl rfl | exact .inr rfl)) (fun σ x => wipe_set x (by decide))) (dgs_cons (dg_name (i := 7) (pg_name (i := 7) nd rfl (by first | exact .inl rfl | exact .inr rfl)) (fun σ x => wipe_set x (by decide))) dgs_nil)))) (fun _ _ _ _ _ => (dts_one (dt_cmp gt_ok (nomark _) (de_ix hu1 (de_ix hu1 (de_fld L_Table_last (pv 2)) (de_bin add_ok (de_ix hu1 (de_var (pv 0)) de_int (fun _ _ => rfl)) (de_var (pv 5))) (fun _ _ => rfl)) de_int (fun _ _ => rfl)) de_int))) (fun _ _ _ _ _ => (de_tup (da_cons (de_var (pv 7)) (da_consP (de_ix hu1 (de_fld L_Table_last (pv 2)) (de_bin add_ok (de_ix hu1 (de_var (pv 0)) de_int (fun _ _ => rfl)) (de_var (pv 5))) (fun _ _ => rfl)) da_nil)))))
    (dss_one (ds_ret (de_tupM (de_ix hu1 (de_fld L_Table_last (pv 2)) (de_un neg_ok de_int) (fun _ _ => rfl)) (de_var (pv 4)) (de_ct1 tuple_ok (by rfl) T_tuple (by decide +kernel) (de_var (pv 3)))))))))))))
abbrev s__law_fill : Stmt := topS 19
theorem sc__law_fill : FnScope ["_law_cell", "_law_at", "_law_x"] ["_law_cell", "_law_at"] (C8.fnScope s__law_fill) := C8.fnScope_by (by decide +kernel)
def b__law_fill : DTS := (dSeq (dIf (dVal (dBin (cmpI fun i j => decide (j ≤ i)) true (dVar 0) (dBin powD true (dConst (.fz (.int 10))) (dConst (.fz (.int 18)))))) (dRet (dVar 0)) dNext)
    (dSeq (dSet 2 (dBin modD true (dBin addD true (dBin addD true (dBin mulD true (dBin modD true (dVar 0) (dConst (.fz (.int 2147483647)))) (dConst (.fz (.int 48271)))) (dBin mulD true (dVar 1) (dConst (.fz (.int 69621))))) (dConst (.fz (.int 11)))) (dConst (.fz (.int 2147483629)))))
    (dSeq (dSet 2 (dBin modD true (dBin addD true (dBin addD true (dBin mulD true (dVar 2) (dVar 2)) (dBin mulD true (dConst (.fz (.int 48271))) (dVar 2))) (dVar 1)) (dConst (.fz (.int 2147483587)))))
    (dRet (dBin addD true (dBin mulD true (dVar 2) (dConst (.fz (.int 2147483579)))) (dBin modD true (dBin addD true (dBin mulD true (dVar 2) (dVar 2)) (dBin mulD true (dConst (.fz (.int 69621))) (dVar 1))) (dConst (.fz (.int 2147483579)))))))))
theorem law__law_fill : ∀ ts R, ts.length = 2 → F__law_fill ts R → b__law_fill ⟨fun G => R (G.take 0) (.fz .non), retW 0 R⟩ (ts.map some ++ List.replicate ((["_law_cell", "_law_at", "_law_x"] : List Str).length - 2) none) := by
  rintro ts R - ⟨c, a, rfl, ha, q⟩
  unfold b__law_fill
  simp only [↓dConst_ap, ↓dVar_ap, ↓dBin_ap, ↓dUn_ap, ↓dVal_ap, ↓dAnd_ap, ↓dOr_ap, ↓dNot_ap, ↓dIfE_ap, ↓dOfT_ap, ↓dBV_ap, ↓dAndV_ap, ↓dOrV_ap, ↓dNotV_ap, ↓dNil_ap, ↓dACons_ap, ↓dAConsP_ap, ↓dALend_ap, ↓dTup_ap, ↓dLst_ap, ↓dCB_ap, ↓dCall_ap, ↓dCallP_ap, ↓dNext_ap, ↓dSeq_ap, ↓dIf_ap, ↓dExpr_ap, ↓dRet_ap, ↓gN_ap, ↓gsNil_ap, ↓gsCons_ap, ↓gT_ap, ↓dSet_ap, ↓dAsg_ap, ↓iSeqD_ap, ↓iRange1_ap, ↓iRange2_ap, ↓iRange3_ap, ↓iEnumD_ap, ↓iZipD_ap, ↓dFor_ap, ↓dYes_ap, ↓oNone_ap, ↓dSlice_ap, ↓dMeth_ap, ↓dMeth0_ap, ↓dStore_ap, ↓dNewK_ap, ↓dNewT_ap, ↓dChain_ap, ↓dPar_ap, ↓dListR1_ap, ↓dNews_ap, ↓dKid_ap, ↓dKidK_ap, ↓dIxV_ap, ↓dDisp3_ap, ↓iDict_ap, ↓dListR2_ap, ↓dCallV_ap, ↓dRevL_ap, ↓dRdV_ap, ↓dCallB_ap, ↓dLenSet_ap, ↓dFld_ap, ↓dFPut_ap, ↓dFPutZ_ap, ↓dRetN_ap, ↓dMth_ap, ↓dMake_ap, ↓dAppNew_ap, ↓dLenLL_ap, ↓dNewLL_ap, ↓dLcQ_ap, ↓iEnumTD_ap, ↓dSortSet_ap, ↓dMaxDef_ap, ↓dRevT_ap, ↓dNo_ap, ↓dPar2_ap, ↓dCB1_ap, ↓setW_t, ↓setW_pk, ↓isB_bl, ↓isI_int, ↓fzP_t, ↓withD_nil, ↓withD_d, ↓addD_i, ↓addD_l, ↓addD_t, ↓subD_i, ↓mulD_i, ↓mulD_l, ↓mulD_t, ↓divD_i, ↓modD_i, ↓powD_i, ↓negD_i, ↓cmpI_i, ↓eqD_ap, ↓neD_ap, ↓inD_l, ↓inD_t, ↓inD_ki, ↓inD_kt, ↓getD'_some, ↓ixD_l, ↓ixD_t, ↓ixD_s, ↓ixD_ki, ↓ixD_kt, ↓lenD_l, ↓lenD_t, ↓lenD_s, ↓min2D_i, ↓max2D_i, ↓absD_i, ↓intD_i, ↓intD_b, ↓listD_l, ↓listD_t, ↓tupleD_l, ↓tupleD_t, ↓dictTD_l, ↓reprN_ap, ↓isinstD_ap, ↓sliceD_l, ↓sliceD_t, ↓oSome_ap', ↓appendN_ap, ↓extendN_ap, ↓popN_ap, ↓popAtN_ap, ↓reverseN_ap, ↓setL'_some, ↓storeN_l, ↓storeN_k, ↓storeN_t, ↓kidM_mixed, ↓kidM_turn, ↓kidM_wide, ↓kid_wide, ↓setKid_wide, ↓storeN_turn, ↓penM_eq, ↓fzW_tt, ↓fzW_pk, ↓rdW_t, ↓rdW_pk, ↓rdT_fz, ↓rdT_ls, ↓rdT_dk, ↓rdT_dt, ↓fzT_fz, ↓fzT_ls, ↓fzT_dk, ↓fzT_dt, atE_none, setE_none, atE_some, setE_some, lendE, backE, atI_0, atI_1, atI_2, atI_3, ixN_0, ixN_1, ixN_2, DL.keyOf, keysOf, T.ty, retW, List.map_cons, List.map_nil, List.cons_append, List.nil_append, List.replicate, List.getElem?_cons_zero, List.getElem?_cons_succ, List.set_cons_zero, List.set_cons_succ, List.length_cons, List.length_nil, Option.map_some, Option.map_none, List.take_succ_cons, List.take_zero, List.take_nil]
  refine ⟨by unfold CPow; decide, ?_⟩
  split
  · rename_i h
    refine q c ?_
    have := of_decide_eq_true h
    have e : (10 : Int) ^ Int.toNat 18 = 1000000000000000000 := by decide
    omega
  · generalize e1 : (c % 2147483647 * 48271 + a * 69621 + 11) % 2147483629 = x
    have hx := mod_in (a := c % 2147483647 * 48271 + a * 69621 + 11) (b := 2147483629) (by decide)
    rw [e1] at hx
    generalize e2 : (x * x + 48271 * x + a) % 2147483587 = y
    have hy := mod_in (a := x * x + 48271 * x + a) (b := 2147483587) (by decide)
    rw [e2] at hy
    refine ⟨by decide, mul_r (by decide), mul_r (by decide), by decide, by decide, mul_l ⟨by omega, by omega⟩, mul_l (by decide), by decide, by decide, mul_l ⟨by omega, by omega⟩, mul_l ⟨by omega, by omega⟩, mul_l (by decide), by decide, q _ ?_⟩
    have hz := mod_in (a := y * y + 69621 * a) (b := 2147483579) (by decide)
    omega
theorem ok__law_fill {f : Addr} {fd : FuncData} (Fd : C8.Def K mg "_law_fill" s__law_fill f fd) (bd : Binds K fd ["_law_cell", "_law_at"] []) : Fn P w K mg base 1 "_law_fill" 2 0 F__law_fill := by
  refine fn_mk (body := b__law_fill) Fd bd sc__law_fill rfl (by decide) (fun cdv A outer s H E hgd hr => ?_) law__law_fill
  have nd := sc__law_fill.nd
  have hu64 := hr.units
  have hu65 := hu65 hr
  have hu1 := hu1 hr
  have hu2 := hu2 hr
  have hu0 := hr.units0
  exact (dss_cons (ds_if (dt_cmp ge_ok (nomark _) (de_var (pv 0)) (de_bin pow_ok de_int de_int)) (dss_one (ds_ret (de_var (pv 0)))) dss_nil)
    (dss_cons (ds_set (i := 2) nd rfl (.inl rfl) (de_bin mod_ok (de_bin add_ok (de_bin add_ok (de_bin mul_ok (de_bin mod_ok (de_var (pv 0)) de_int) de_int) (de_bin mul_ok (de_var (pv 1)) de_int)) de_int) de_int) (by decide))
    (dss_cons (ds_set (i := 2) nd rfl (.inl rfl) (de_bin mod_ok (de_bin add_ok (de_bin add_ok (de_bin mul_ok (de_var (pv 2)) (de_var (pv 2))) (de_bin mul_ok de_int (de_var (pv 2)))) (de_var (pv 1))) de_int) (by decide))
    (dss_one (ds_ret (de_bin add_ok (de_bin mul_ok (de_var (pv 2)) de_int) (de_bin mod_ok (de_bin add_ok (de_bin mul_ok (de_var (pv 2)) (de_var (pv 2))) (de_bin mul_ok de_int (de_var (pv 1)))) de_int)))))))
abbrev s__law_next : Stmt := topS 20
theorem sc__law_next : FnScope ["_law_pen", "_law_many", "_law_found", "_law_at", "_law_cell"] ["_law_pen", "_law_many"] (C8.fnScope s__law_next) := C8.fnScope_by (by decide +kernel)
def b__law_next : DTS := (dSeq (dCut (dIf (dVal (dBin (cmpI fun i j => decide (i < j)) true (dBin ixD true (dVar 0) (dConst (.fz (.int 2)))) (dVar 1))) (dSeq (dSet 3 (dBin ixD true (dVar 0) (dConst (.fz (.int 1)))))
    (dSeq (dSet 4 (dConst (.fz (.int 0))))
    (dSeq (dCut (dIf (dVal (dBin (cmpI fun i j => decide (i < j)) true (dVar 3) (dCB1 (fun y R => lenD [y] R) (dBin ixD true (dVar 0) (dConst (.fz (.int 0))))))) (dSet 4 (dBin ixD true (dBin ixD true (dVar 0) (dConst (.fz (.int 0)))) (dVar 3))) (dIf (dVal (dBin (cmpI fun i j => decide (j < i)) true (dCB1 (fun y R => lenD [y] R) (dBin ixD true (dVar 0) (dConst (.fz (.int 0))))) (dConst (.fz (.int 0))))) (dSet 4 (dBin addD true (dBin modD true (dBin ixD true (dBin ixD true (dVar 0) (dConst (.fz (.int 0)))) (dBin modD true (dBin mulD true (dVar 3) (dConst (.fz (.int 7)))) (dCB1 (fun y R => lenD [y] R) (dBin ixD true (dVar 0) (dConst (.fz (.int 0))))))) (dConst (.fz (.int 1000003)))) (dBin mulD true (dVar 3) (dConst (.fz (.int 1000003)))))) dNext)))
    (dSeq (dStore true (dBin addD true (dVar 3) (dConst (.fz (.int 1)))) (dVar 0) (dConst (.fz (.int 1))))
    (dStore true (dCall 2 F__law_fill (dACons (dVar 4) (dACons (dVar 3) dNil))) (dVar 0) (dConst (.fz (.int 2)))))))) dNext))
    (dSeq (dSet 2 (dBin modD true (dBin ixD true (dVar 0) (dConst (.fz (.int 2)))) (dVar 1)))
    (dSeq (dStore true (dBin divD true (dBin ixD true (dVar 0) (dConst (.fz (.int 2)))) (dVar 1)) (dVar 0) (dConst (.fz (.int 2))))
    (dRet (dVar 2)))))
theorem law__law_next : ∀ ts R, ts.length = 2 → F__law_next ts R → b__law_next ⟨fun G => R (G.take 1) (.fz .non), retW 1 R⟩ (ts.map some ++ List.replicate ((["_law_pen", "_law_many", "_law_found", "_law_at", "_law_cell"] : List Str).length - 2) none) := by
  rintro ts R - ⟨⟨c, p, l⟩, m, P, rfl, ⟨⟨hp, hl⟩, hm, hm2, q1⟩, q2⟩
  have q : ∀ at' left' x : Int, 0 ≤ at' → 0 ≤ left' → 0 ≤ x → x < m → R [some (.ls [.scr c, .int at', .int left'])] (.fz (.int x)) := fun a b x h1 h2 h3 h4 => q2 ⟨c, a, b⟩ x (q1 _ _ ⟨h1, h2⟩ h3 h4)
  dsimp only at hp hl
  unfold b__law_next
  simp only [PenN.T]
  simp only [↓dConst_ap, ↓dVar_ap, ↓dBin_ap, ↓dUn_ap, ↓dVal_ap, ↓dAnd_ap, ↓dOr_ap, ↓dNot_ap, ↓dIfE_ap, ↓dOfT_ap, ↓dBV_ap, ↓dAndV_ap, ↓dOrV_ap, ↓dNotV_ap, ↓dNil_ap, ↓dACons_ap, ↓dAConsP_ap, ↓dALend_ap, ↓dTup_ap, ↓dLst_ap, ↓dCB_ap, ↓dCall_ap, ↓dCallP_ap, ↓dNext_ap, ↓dSeq_ap, ↓dIf_ap, ↓dExpr_ap, ↓dRet_ap, ↓gN_ap, ↓gsNil_ap, ↓gsCons_ap, ↓gT_ap, ↓dSet_ap, ↓dAsg_ap, ↓iSeqD_ap, ↓iRange1_ap, ↓iRange2_ap, ↓iRange3_ap, ↓iEnumD_ap, ↓iZipD_ap, ↓dFor_ap, ↓dYes_ap, ↓oNone_ap, ↓dSlice_ap, ↓dMeth_ap, ↓dMeth0_ap, ↓dStore_ap, ↓dNewK_ap, ↓dNewT_ap, ↓dChain_ap, ↓dPar_ap, ↓dListR1_ap, ↓dNews_ap, ↓dKid_ap, ↓dKidK_ap, ↓dIxV_ap, ↓dDisp3_ap, ↓iDict_ap, ↓dListR2_ap, ↓dCallV_ap, ↓dRevL_ap, ↓dRdV_ap, ↓dCallB_ap, ↓dLenSet_ap, ↓dFld_ap, ↓dFPut_ap, ↓dFPutZ_ap, ↓dRetN_ap, ↓dMth_ap, ↓dMake_ap, ↓dAppNew_ap, ↓dLenLL_ap, ↓dNewLL_ap, ↓dLcQ_ap, ↓iEnumTD_ap, ↓dSortSet_ap, ↓dMaxDef_ap, ↓dRevT_ap, ↓dNo_ap, ↓dPar2_ap, ↓dCB1_ap, ↓setW_t, ↓setW_pk, ↓isB_bl, ↓isI_int, ↓fzP_t, ↓withD_nil, ↓withD_d, ↓addD_i, ↓addD_l, ↓addD_t, ↓subD_i, ↓mulD_i, ↓mulD_l, ↓mulD_t, ↓divD_i, ↓modD_i, ↓powD_i, ↓negD_i, ↓cmpI_i, ↓eqD_ap, ↓neD_ap, ↓inD_l, ↓inD_t, ↓inD_ki, ↓inD_kt, ↓getD'_some, ↓ixD_l, ↓ixD_t, ↓ixD_s, ↓ixD_ki, ↓ixD_kt, ↓lenD_l, ↓lenD_t, ↓lenD_s, ↓min2D_i, ↓max2D_i, ↓absD_i, ↓intD_i, ↓intD_b, ↓listD_l, ↓listD_t, ↓tupleD_l, ↓tupleD_t, ↓dictTD_l, ↓reprN_ap, ↓isinstD_ap, ↓sliceD_l, ↓sliceD_t, ↓oSome_ap', ↓appendN_ap, ↓extendN_ap, ↓popN_ap, ↓popAtN_ap, ↓reverseN_ap, ↓setL'_some, ↓storeN_l, ↓storeN_k, ↓storeN_t, ↓kidM_mixed, ↓kidM_turn, ↓kidM_wide, ↓kid_wide, ↓setKid_wide, ↓storeN_turn, ↓penM_eq, ↓fzW_tt, ↓fzW_pk, ↓rdW_t, ↓rdW_pk, ↓rdT_fz, ↓rdT_ls, ↓rdT_dk, ↓rdT_dt, ↓fzT_fz, ↓fzT_ls, ↓fzT_dk, ↓fzT_dt, atE_none, setE_none, atE_some, setE_some, lendE, backE, atI_0, atI_1, atI_2, atI_3, ixN_0, ixN_1, ixN_2, DL.keyOf, keysOf, T.ty, retW, List.map_cons, List.map_nil, List.cons_append, List.nil_append, List.replicate, List.getElem?_cons_zero, List.getElem?_cons_succ, List.set_cons_zero, List.set_cons_succ, List.length_cons, List.length_nil, Option.map_some, Option.map_none, List.take_succ_cons, List.take_zero, List.take_nil]
  refine ⟨fun G => ∃ (p' l' : Int) (a b : Option T), 0 ≤ p' ∧ 0 ≤ l' ∧ G = [some (.ls [.scr c, .int p', .int l']), some (.fz (.int m)), none, a, b], ?_, ?_⟩
  · simp only [↓dConst_ap, ↓dVar_ap, ↓dBin_ap, ↓dUn_ap, ↓dVal_ap, ↓dAnd_ap, ↓dOr_ap, ↓dNot_ap, ↓dIfE_ap, ↓dOfT_ap, ↓dBV_ap, ↓dAndV_ap, ↓dOrV_ap, ↓dNotV_ap, ↓dNil_ap, ↓dACons_ap, ↓dAConsP_ap, ↓dALend_ap, ↓dTup_ap, ↓dLst_ap, ↓dCB_ap, ↓dCall_ap, ↓dCallP_ap, ↓dNext_ap, ↓dSeq_ap, ↓dIf_ap, ↓dExpr_ap, ↓dRet_ap, ↓gN_ap, ↓gsNil_ap, ↓gsCons_ap, ↓gT_ap, ↓dSet_ap, ↓dAsg_ap, ↓iSeqD_ap, ↓iRange1_ap, ↓iRange2_ap, ↓iRange3_ap, ↓iEnumD_ap, ↓iZipD_ap, ↓dFor_ap, ↓dYes_ap, ↓oNone_ap, ↓dSlice_ap, ↓dMeth_ap, ↓dMeth0_ap, ↓dStore_ap, ↓dNewK_ap, ↓dNewT_ap, ↓dChain_ap, ↓dPar_ap, ↓dListR1_ap, ↓dNews_ap, ↓dKid_ap, ↓dKidK_ap, ↓dIxV_ap, ↓dDisp3_ap, ↓iDict_ap, ↓dListR2_ap, ↓dCallV_ap, ↓dRevL_ap, ↓dRdV_ap, ↓dCallB_ap, ↓dLenSet_ap, ↓dFld_ap, ↓dFPut_ap, ↓dFPutZ_ap, ↓dRetN_ap, ↓dMth_ap, ↓dMake_ap, ↓dAppNew_ap, ↓dLenLL_ap, ↓dNewLL_ap, ↓dLcQ_ap, ↓iEnumTD_ap, ↓dSortSet_ap, ↓dMaxDef_ap, ↓dRevT_ap, ↓dNo_ap, ↓dPar2_ap, ↓dCB1_ap, ↓setW_t, ↓setW_pk, ↓isB_bl, ↓isI_int, ↓fzP_t, ↓withD_nil, ↓withD_d, ↓addD_i, ↓addD_l, ↓addD_t, ↓subD_i, ↓mulD_i, ↓mulD_l, ↓mulD_t, ↓divD_i, ↓modD_i, ↓powD_i, ↓negD_i, ↓cmpI_i, ↓eqD_ap, ↓neD_ap, ↓inD_l, ↓inD_t, ↓inD_ki, ↓inD_kt, ↓getD'_some, ↓ixD_l, ↓ixD_t, ↓ixD_s, ↓ixD_ki, ↓ixD_kt, ↓lenD_l, ↓lenD_t, ↓lenD_s, ↓min2D_i, ↓max2D_i, ↓absD_i, ↓intD_i, ↓intD_b, ↓listD_l, ↓listD_t, ↓tupleD_l, ↓tupleD_t, ↓dictTD_l, ↓reprN_ap, ↓isinstD_ap, ↓sliceD_l, ↓sliceD_t, ↓oSome_ap', ↓appendN_ap, ↓extendN_ap, ↓popN_ap, ↓popAtN_ap, ↓reverseN_ap, ↓setL'_some, ↓storeN_l, ↓storeN_k, ↓storeN_t, ↓kidM_mixed, ↓kidM_turn, ↓kidM_wide, ↓kid_wide, ↓setKid_wide, ↓storeN_turn, ↓penM_eq, ↓fzW_tt, ↓fzW_pk, ↓rdW_t, ↓rdW_pk, ↓rdT_fz, ↓rdT_ls, ↓rdT_dk, ↓rdT_dt, ↓fzT_fz, ↓fzT_ls, ↓fzT_dk, ↓fzT_dt, atE_none, setE_none, atE_some, setE_some, lendE, backE, atI_0, atI_1, atI_2, atI_3, ixN_0, ixN_1, ixN_2, DL.keyOf, keysOf, T.ty, retW, List.map_cons, List.map_nil, List.cons_append, List.nil_append, List.replicate, List.getElem?_cons_zero, List.getElem?_cons_succ, List.set_cons_zero, List.set_cons_succ, List.length_cons, List.length_nil, Option.map_some, Option.map_none, List.take_succ_cons, List.take_zero, List.take_nil]
    split
    · refine ⟨by decide, by decide, fun G => ∃ v : Int, G = [some (.ls [.scr c, .int p, .int l]), some (.fz (.int m)), none, some (.fz (.int p)), some (.fz (.int v))], ?_, ?_⟩
      · simp only [↓dConst_ap, ↓dVar_ap, ↓dBin_ap, ↓dUn_ap, ↓dVal_ap, ↓dAnd_ap, ↓dOr_ap, ↓dNot_ap, ↓dIfE_ap, ↓dOfT_ap, ↓dBV_ap, ↓dAndV_ap, ↓dOrV_ap, ↓dNotV_ap, ↓dNil_ap, ↓dACons_ap, ↓dAConsP_ap, ↓dALend_ap, ↓dTup_ap, ↓dLst_ap, ↓dCB_ap, ↓dCall_ap, ↓dCallP_ap, ↓dNext_ap, ↓dSeq_ap, ↓dIf_ap, ↓dExpr_ap, ↓dRet_ap, ↓gN_ap, ↓gsNil_ap, ↓gsCons_ap, ↓gT_ap, ↓dSet_ap, ↓dAsg_ap, ↓iSeqD_ap, ↓iRange1_ap, ↓iRange2_ap, ↓iRange3_ap, ↓iEnumD_ap, ↓iZipD_ap, ↓dFor_ap, ↓dYes_ap, ↓oNone_ap, ↓dSlice_ap, ↓dMeth_ap, ↓dMeth0_ap, ↓dStore_ap, ↓dNewK_ap, ↓dNewT_ap, ↓dChain_ap, ↓dPar_ap, ↓dListR1_ap, ↓dNews_ap, ↓dKid_ap, ↓dKidK_ap, ↓dIxV_ap, ↓dDisp3_ap, ↓iDict_ap, ↓dListR2_ap, ↓dCallV_ap, ↓dRevL_ap, ↓dRdV_ap, ↓dCallB_ap, ↓dLenSet_ap, ↓dFld_ap, ↓dFPut_ap, ↓dFPutZ_ap, ↓dRetN_ap, ↓dMth_ap, ↓dMake_ap, ↓dAppNew_ap, ↓dLenLL_ap, ↓dNewLL_ap, ↓dLcQ_ap, ↓iEnumTD_ap, ↓dSortSet_ap, ↓dMaxDef_ap, ↓dRevT_ap, ↓dNo_ap, ↓dPar2_ap, ↓dCB1_ap, ↓setW_t, ↓setW_pk, ↓isB_bl, ↓isI_int, ↓fzP_t, ↓withD_nil, ↓withD_d, ↓addD_i, ↓addD_l, ↓addD_t, ↓subD_i, ↓mulD_i, ↓mulD_l, ↓mulD_t, ↓divD_i, ↓modD_i, ↓powD_i, ↓negD_i, ↓cmpI_i, ↓eqD_ap, ↓neD_ap, ↓inD_l, ↓inD_t, ↓inD_ki, ↓inD_kt, ↓getD'_some, ↓ixD_l, ↓ixD_t, ↓ixD_s, ↓ixD_ki, ↓ixD_kt, ↓lenD_l, ↓lenD_t, ↓lenD_s, ↓min2D_i, ↓max2D_i, ↓absD_i, ↓intD_i, ↓intD_b, ↓listD_l, ↓listD_t, ↓tupleD_l, ↓tupleD_t, ↓dictTD_l, ↓reprN_ap, ↓isinstD_ap, ↓sliceD_l, ↓sliceD_t, ↓oSome_ap', ↓appendN_ap, ↓extendN_ap, ↓popN_ap, ↓popAtN_ap, ↓reverseN_ap, ↓setL'_some, ↓storeN_l, ↓storeN_k, ↓storeN_t, ↓kidM_mixed, ↓kidM_turn, ↓kidM_wide, ↓kid_wide, ↓setKid_wide, ↓storeN_turn, ↓penM_eq, ↓fzW_tt, ↓fzW_pk, ↓rdW_t, ↓rdW_pk, ↓rdT_fz, ↓rdT_ls, ↓rdT_dk, ↓rdT_dt, ↓fzT_fz, ↓fzT_ls, ↓fzT_dk, ↓fzT_dt, atE_none, setE_none, atE_some, setE_some, lendE, backE, atI_0, atI_1, atI_2, atI_3, ixN_0, ixN_1, ixN_2, DL.keyOf, keysOf, T.ty, retW, List.map_cons, List.map_nil, List.cons_append, List.nil_append, List.replicate, List.getElem?_cons_zero, List.getElem?_cons_succ, List.set_cons_zero, List.set_cons_succ, List.length_cons, List.length_nil, Option.map_some, Option.map_none, List.take_succ_cons, List.take_zero, List.take_nil]
        split
        · rename_i h
          have h := of_decide_eq_true h
          obtain ⟨k, rfl⟩ := Int.eq_ofNat_of_zero_le hp
          have hk : k < c.length := by omega
          rw [show atI c (k : Int) = some c[k] by rw [atI_lit]; exact List.getElem?_eq_getElem hk]
          simp only [↓dConst_ap, ↓dVar_ap, ↓dBin_ap, ↓dUn_ap, ↓dVal_ap, ↓dAnd_ap, ↓dOr_ap, ↓dNot_ap, ↓dIfE_ap, ↓dOfT_ap, ↓dBV_ap, ↓dAndV_ap, ↓dOrV_ap, ↓dNotV_ap, ↓dNil_ap, ↓dACons_ap, ↓dAConsP_ap, ↓dALend_ap, ↓dTup_ap, ↓dLst_ap, ↓dCB_ap, ↓dCall_ap, ↓dCallP_ap, ↓dNext_ap, ↓dSeq_ap, ↓dIf_ap, ↓dExpr_ap, ↓dRet_ap, ↓gN_ap, ↓gsNil_ap, ↓gsCons_ap, ↓gT_ap, ↓dSet_ap, ↓dAsg_ap, ↓iSeqD_ap, ↓iRange1_ap, ↓iRange2_ap, ↓iRange3_ap, ↓iEnumD_ap, ↓iZipD_ap, ↓dFor_ap, ↓dYes_ap, ↓oNone_ap, ↓dSlice_ap, ↓dMeth_ap, ↓dMeth0_ap, ↓dStore_ap, ↓dNewK_ap, ↓dNewT_ap, ↓dChain_ap, ↓dPar_ap, ↓dListR1_ap, ↓dNews_ap, ↓dKid_ap, ↓dKidK_ap, ↓dIxV_ap, ↓dDisp3_ap, ↓iDict_ap, ↓dListR2_ap, ↓dCallV_ap, ↓dRevL_ap, ↓dRdV_ap, ↓dCallB_ap, ↓dLenSet_ap, ↓dFld_ap, ↓dFPut_ap, ↓dFPutZ_ap, ↓dRetN_ap, ↓dMth_ap, ↓dMake_ap, ↓dAppNew_ap, ↓dLenLL_ap, ↓dNewLL_ap, ↓dLcQ_ap, ↓iEnumTD_ap, ↓dSortSet_ap, ↓dMaxDef_ap, ↓dRevT_ap, ↓dNo_ap, ↓dPar2_ap, ↓dCB1_ap, ↓setW_t, ↓setW_pk, ↓isB_bl, ↓isI_int, ↓fzP_t, ↓withD_nil, ↓withD_d, ↓addD_i, ↓addD_l, ↓addD_t, ↓subD_i, ↓mulD_i, ↓mulD_l, ↓mulD_t, ↓divD_i, ↓modD_i, ↓powD_i, ↓negD_i, ↓cmpI_i, ↓eqD_ap, ↓neD_ap, ↓inD_l, ↓inD_t, ↓inD_ki, ↓inD_kt, ↓getD'_some, ↓ixD_l, ↓ixD_t, ↓ixD_s, ↓ixD_ki, ↓ixD_kt, ↓lenD_l, ↓lenD_t, ↓lenD_s, ↓min2D_i, ↓max2D_i, ↓absD_i, ↓intD_i, ↓intD_b, ↓listD_l, ↓listD_t, ↓tupleD_l, ↓tupleD_t, ↓dictTD_l, ↓reprN_ap, ↓isinstD_ap, ↓sliceD_l, ↓sliceD_t, ↓oSome_ap', ↓appendN_ap, ↓extendN_ap, ↓popN_ap, ↓popAtN_ap, ↓reverseN_ap, ↓setL'_some, ↓storeN_l, ↓storeN_k, ↓storeN_t, ↓kidM_mixed, ↓kidM_turn, ↓kidM_wide, ↓kid_wide, ↓setKid_wide, ↓storeN_turn, ↓penM_eq, ↓fzW_tt, ↓fzW_pk, ↓rdW_t, ↓rdW_pk, ↓rdT_fz, ↓rdT_ls, ↓rdT_dk, ↓rdT_dt, ↓fzT_fz, ↓fzT_ls, ↓fzT_dk, ↓fzT_dt, atE_none, setE_none, atE_some, setE_some, lendE, backE, atI_0, atI_1, atI_2, atI_3, ixN_0, ixN_1, ixN_2, DL.keyOf, keysOf, T.ty, retW, List.map_cons, List.map_nil, List.cons_append, List.nil_append, List.replicate, List.getElem?_cons_zero, List.getElem?_cons_succ, List.set_cons_zero, List.set_cons_succ, List.length_cons, List.length_nil, Option.map_some, Option.map_none, List.take_succ_cons, List.take_zero, List.take_nil]
          exact ⟨by decide, _, rfl⟩
        · split
          · rename_i h
            have h := of_decide_eq_true h
            have hx := mod_in (a := p * 7) (b := (c.length : Int)) h
            obtain ⟨k, hk⟩ := Int.eq_ofNat_of_zero_le hx.1
            refine ⟨mul_r (by decide), h, ?_⟩
            rw [hk] at hx ⊢
            have hk : k < c.length := by omega
            rw [show atI c (k : Int) = some c[k] by rw [atI_lit]; exact List.getElem?_eq_getElem hk]
            simp only [↓dConst_ap, ↓dVar_ap, ↓dBin_ap, ↓dUn_ap, ↓dVal_ap, ↓dAnd_ap, ↓dOr_ap, ↓dNot_ap, ↓dIfE_ap, ↓dOfT_ap, ↓dBV_ap, ↓dAndV_ap, ↓dOrV_ap, ↓dNotV_ap, ↓dNil_ap, ↓dACons_ap, ↓dAConsP_ap, ↓dALend_ap, ↓dTup_ap, ↓dLst_ap, ↓dCB_ap, ↓dCall_ap, ↓dCallP_ap, ↓dNext_ap, ↓dSeq_ap, ↓dIf_ap, ↓dExpr_ap, ↓dRet_ap, ↓gN_ap, ↓gsNil_ap, ↓gsCons_ap, ↓gT_ap, ↓dSet_ap, ↓dAsg_ap, ↓iSeqD_ap, ↓iRange1_ap, ↓iRange2_ap, ↓iRange3_ap, ↓iEnumD_ap, ↓iZipD_ap, ↓dFor_ap, ↓dYes_ap, ↓oNone_ap, ↓dSlice_ap, ↓dMeth_ap, ↓dMeth0_ap, ↓dStore_ap, ↓dNewK_ap, ↓dNewT_ap, ↓dChain_ap, ↓dPar_ap, ↓dListR1_ap, ↓dNews_ap, ↓dKid_ap, ↓dKidK_ap, ↓dIxV_ap, ↓dDisp3_ap, ↓iDict_ap, ↓dListR2_ap, ↓dCallV_ap, ↓dRevL_ap, ↓dRdV_ap, ↓dCallB_ap, ↓dLenSet_ap, ↓dFld_ap, ↓dFPut_ap, ↓dFPutZ_ap, ↓dRetN_ap, ↓dMth_ap, ↓dMake_ap, ↓dAppNew_ap, ↓dLenLL_ap, ↓dNewLL_ap, ↓dLcQ_ap, ↓iEnumTD_ap, ↓dSortSet_ap, ↓dMaxDef_ap, ↓dRevT_ap, ↓dNo_ap, ↓dPar2_ap, ↓dCB1_ap, ↓setW_t, ↓setW_pk, ↓isB_bl, ↓isI_int, ↓fzP_t, ↓withD_nil, ↓withD_d, ↓addD_i, ↓addD_l, ↓addD_t, ↓subD_i, ↓mulD_i, ↓mulD_l, ↓mulD_t, ↓divD_i, ↓modD_i, ↓powD_i, ↓negD_i, ↓cmpI_i, ↓eqD_ap, ↓neD_ap, ↓inD_l, ↓inD_t, ↓inD_ki, ↓inD_kt, ↓getD'_some, ↓ixD_l, ↓ixD_t, ↓ixD_s, ↓ixD_ki, ↓ixD_kt, ↓lenD_l, ↓lenD_t, ↓lenD_s, ↓min2D_i, ↓max2D_i, ↓absD_i, ↓intD_i, ↓intD_b, ↓listD_l, ↓listD_t, ↓tupleD_l, ↓tupleD_t, ↓dictTD_l, ↓reprN_ap, ↓isinstD_ap, ↓sliceD_l, ↓sliceD_t, ↓oSome_ap', ↓appendN_ap, ↓extendN_ap, ↓popN_ap, ↓popAtN_ap, ↓reverseN_ap, ↓setL'_some, ↓storeN_l, ↓storeN_k, ↓storeN_t, ↓kidM_mixed, ↓kidM_turn, ↓kidM_wide, ↓kid_wide, ↓setKid_wide, ↓storeN_turn, ↓penM_eq, ↓fzW_tt, ↓fzW_pk, ↓rdW_t, ↓rdW_pk, ↓rdT_fz, ↓rdT_ls, ↓rdT_dk, ↓rdT_dt, ↓fzT_fz, ↓fzT_ls, ↓fzT_dk, ↓fzT_dt, atE_none, setE_none, atE_some, setE_some, lendE, backE, atI_0, atI_1, atI_2, atI_3, ixN_0, ixN_1, ixN_2, DL.keyOf, keysOf, T.ty, retW, List.map_cons, List.map_nil, List.cons_append, List.nil_append, List.replicate, List.getElem?_cons_zero, List.getElem?_cons_succ, List.set_cons_zero, List.set_cons_succ, List.length_cons, List.length_nil, Option.map_some, Option.map_none, List.take_succ_cons, List.take_zero, List.take_nil]
            exact ⟨by decide, mul_r (by decide), by decide, _, rfl⟩
          · exact ⟨_, rfl⟩
      · rintro G ⟨v, rfl⟩
        simp only [↓dConst_ap, ↓dVar_ap, ↓dBin_ap, ↓dUn_ap, ↓dVal_ap, ↓dAnd_ap, ↓dOr_ap, ↓dNot_ap, ↓dIfE_ap, ↓dOfT_ap, ↓dBV_ap, ↓dAndV_ap, ↓dOrV_ap, ↓dNotV_ap, ↓dNil_ap, ↓dACons_ap, ↓dAConsP_ap, ↓dALend_ap, ↓dTup_ap, ↓dLst_ap, ↓dCB_ap, ↓dCall_ap, ↓dCallP_ap, ↓dNext_ap, ↓dSeq_ap, ↓dIf_ap, ↓dExpr_ap, ↓dRet_ap, ↓gN_ap, ↓gsNil_ap, ↓gsCons_ap, ↓gT_ap, ↓dSet_ap, ↓dAsg_ap, ↓iSeqD_ap, ↓iRange1_ap, ↓iRange2_ap, ↓iRange3_ap, ↓iEnumD_ap, ↓iZipD_ap, ↓dFor_ap, ↓dYes_ap, ↓oNone_ap, ↓dSlice_ap, ↓dMeth_ap, ↓dMeth0_ap, ↓dStore_ap, ↓dNewK_ap, ↓dNewT_ap, ↓dChain_ap, ↓dPar_ap, ↓dListR1_ap, ↓dNews_ap, ↓dKid_ap, ↓dKidK_ap, ↓dIxV_ap, ↓dDisp3_ap, ↓iDict_ap, ↓dListR2_ap, ↓dCallV_ap, ↓dRevL_ap, ↓dRdV_ap, ↓dCallB_ap, ↓dLenSet_ap, ↓dFld_ap, ↓dFPut_ap, ↓dFPutZ_ap, ↓dRetN_ap, ↓dMth_ap, ↓dMake_ap, ↓dAppNew_ap, ↓dLenLL_ap, ↓dNewLL_ap, ↓dLcQ_ap, ↓iEnumTD_ap, ↓dSortSet_ap, ↓dMaxDef_ap, ↓dRevT_ap, ↓dNo_ap, ↓dPar2_ap, ↓dCB1_ap, ↓setW_t, ↓setW_pk, ↓isB_bl, ↓isI_int, ↓fzP_t, ↓withD_nil, ↓withD_d, ↓addD_i, ↓addD_l, ↓addD_t, ↓subD_i, ↓mulD_i, ↓mulD_l, ↓mulD_t, ↓divD_i, ↓modD_i, ↓powD_i, ↓negD_i, ↓cmpI_i, ↓eqD_ap, ↓neD_ap, ↓inD_l, ↓inD_t, ↓inD_ki, ↓inD_kt, ↓getD'_some, ↓ixD_l, ↓ixD_t, ↓ixD_s, ↓ixD_ki, ↓ixD_kt, ↓lenD_l, ↓lenD_t, ↓lenD_s, ↓min2D_i, ↓max2D_i, ↓absD_i, ↓intD_i, ↓intD_b, ↓listD_l, ↓listD_t, ↓tupleD_l, ↓tupleD_t, ↓dictTD_l, ↓reprN_ap, ↓isinstD_ap, ↓sliceD_l, ↓sliceD_t, ↓oSome_ap', ↓appendN_ap, ↓extendN_ap, ↓popN_ap, ↓popAtN_ap, ↓reverseN_ap, ↓setL'_some, ↓storeN_l, ↓storeN_k, ↓storeN_t, ↓kidM_mixed, ↓kidM_turn, ↓kidM_wide, ↓kid_wide, ↓setKid_wide, ↓storeN_turn, ↓penM_eq, ↓fzW_tt, ↓fzW_pk, ↓rdW_t, ↓rdW_pk, ↓rdT_fz, ↓rdT_ls, ↓rdT_dk, ↓rdT_dt, ↓fzT_fz, ↓fzT_ls, ↓fzT_dk, ↓fzT_dt, atE_none, setE_none, atE_some, setE_some, lendE, backE, atI_0, atI_1, atI_2, atI_3, ixN_0, ixN_1, ixN_2, DL.keyOf, keysOf, T.ty, retW, List.map_cons, List.map_nil, List.cons_append, List.nil_append, List.replicate, List.getElem?_cons_zero, List.getElem?_cons_succ, List.set_cons_zero, List.set_cons_succ, List.length_cons, List.length_nil, Option.map_some, Option.map_none, List.take_succ_cons, List.take_zero, List.take_nil]
        refine ⟨.inl trivial, trivial, ?_⟩
        refine ⟨v, p, rfl, hp, fun x hx => ?_⟩
        simp only [↓dConst_ap, ↓dVar_ap, ↓dBin_ap, ↓dUn_ap, ↓dVal_ap, ↓dAnd_ap, ↓dOr_ap, ↓dNot_ap, ↓dIfE_ap, ↓dOfT_ap, ↓dBV_ap, ↓dAndV_ap, ↓dOrV_ap, ↓dNotV_ap, ↓dNil_ap, ↓dACons_ap, ↓dAConsP_ap, ↓dALend_ap, ↓dTup_ap, ↓dLst_ap, ↓dCB_ap, ↓dCall_ap, ↓dCallP_ap, ↓dNext_ap, ↓dSeq_ap, ↓dIf_ap, ↓dExpr_ap, ↓dRet_ap, ↓gN_ap, ↓gsNil_ap, ↓gsCons_ap, ↓gT_ap, ↓dSet_ap, ↓dAsg_ap, ↓iSeqD_ap, ↓iRange1_ap, ↓iRange2_ap, ↓iRange3_ap, ↓iEnumD_ap, ↓iZipD_ap, ↓dFor_ap, ↓dYes_ap, ↓oNone_ap, ↓dSlice_ap, ↓dMeth_ap, ↓dMeth0_ap, ↓dStore_ap, ↓dNewK_ap, ↓dNewT_ap, ↓dChain_ap, ↓dPar_ap, ↓dListR1_ap, ↓dNews_ap, ↓dKid_ap, ↓dKidK_ap, ↓dIxV_ap, ↓dDisp3_ap, ↓iDict_ap, ↓dListR2_ap, ↓dCallV_ap, ↓dRevL_ap, ↓dRdV_ap, ↓dCallB_ap, ↓dLenSet_ap, ↓dFld_ap, ↓dFPut_ap, ↓dFPutZ_ap, ↓dRetN_ap, ↓dMth_ap, ↓dMake_ap, ↓dAppNew_ap, ↓dLenLL_ap, ↓dNewLL_ap, ↓dLcQ_ap, ↓iEnumTD_ap, ↓dSortSet_ap, ↓dMaxDef_ap, ↓dRevT_ap, ↓dNo_ap, ↓dPar2_ap, ↓dCB1_ap, ↓setW_t, ↓setW_pk, ↓isB_bl, ↓isI_int, ↓fzP_t, ↓withD_nil, ↓withD_d, ↓addD_i, ↓addD_l, ↓addD_t, ↓subD_i, ↓mulD_i, ↓mulD_l, ↓mulD_t, ↓divD_i, ↓modD_i, ↓powD_i, ↓negD_i, ↓cmpI_i, ↓eqD_ap, ↓neD_ap, ↓inD_l, ↓inD_t, ↓inD_ki, ↓inD_kt, ↓getD'_some, ↓ixD_l, ↓ixD_t, ↓ixD_s, ↓ixD_ki, ↓ixD_kt, ↓lenD_l, ↓lenD_t, ↓lenD_s, ↓min2D_i, ↓max2D_i, ↓absD_i, ↓intD_i, ↓intD_b, ↓listD_l, ↓listD_t, ↓tupleD_l, ↓tupleD_t, ↓dictTD_l, ↓reprN_ap, ↓isinstD_ap, ↓sliceD_l, ↓sliceD_t, ↓oSome_ap', ↓appendN_ap, ↓extendN_ap, ↓popN_ap, ↓popAtN_ap, ↓reverseN_ap, ↓setL'_some, ↓storeN_l, ↓storeN_k, ↓storeN_t, ↓kidM_mixed, ↓kidM_turn, ↓kidM_wide, ↓kid_wide, ↓setKid_wide, ↓storeN_turn, ↓penM_eq, ↓fzW_tt, ↓fzW_pk, ↓rdW_t, ↓rdW_pk, ↓rdT_fz, ↓rdT_ls, ↓rdT_dk, ↓rdT_dt, ↓fzT_fz, ↓fzT_ls, ↓fzT_dk, ↓fzT_dt, atE_none, setE_none, atE_some, setE_some, lendE, backE, atI_0, atI_1, atI_2, atI_3, ixN_0, ixN_1, ixN_2, DL.keyOf, keysOf, T.ty, retW, List.map_cons, List.map_nil, List.cons_append, List.nil_append, List.replicate, List.getElem?_cons_zero, List.getElem?_cons_succ, List.set_cons_zero, List.set_cons_succ, List.length_cons, List.length_nil, Option.map_some, Option.map_none, List.take_succ_cons, List.take_zero, List.take_nil]
        exact ⟨.inl trivial, p + 1, x, _, _, by omega, hx, rfl⟩
    · exact ⟨p, l, none, none, hp, hl, rfl⟩
  · rintro G ⟨p', l', a, b, h1, h2, rfl⟩
    simp only [↓dConst_ap, ↓dVar_ap, ↓dBin_ap, ↓dUn_ap, ↓dVal_ap, ↓dAnd_ap, ↓dOr_ap, ↓dNot_ap, ↓dIfE_ap, ↓dOfT_ap, ↓dBV_ap, ↓dAndV_ap, ↓dOrV_ap, ↓dNotV_ap, ↓dNil_ap, ↓dACons_ap, ↓dAConsP_ap, ↓dALend_ap, ↓dTup_ap, ↓dLst_ap, ↓dCB_ap, ↓dCall_ap, ↓dCallP_ap, ↓dNext_ap, ↓dSeq_ap, ↓dIf_ap, ↓dExpr_ap, ↓dRet_ap, ↓gN_ap, ↓gsNil_ap, ↓gsCons_ap, ↓gT_ap, ↓dSet_ap, ↓dAsg_ap, ↓iSeqD_ap, ↓iRange1_ap, ↓iRange2_ap, ↓iRange3_ap, ↓iEnumD_ap, ↓iZipD_ap, ↓dFor_ap, ↓dYes_ap, ↓oNone_ap, ↓dSlice_ap, ↓dMeth_ap, ↓dMeth0_ap, ↓dStore_ap, ↓dNewK_ap, ↓dNewT_ap, ↓dChain_ap, ↓dPar_ap, ↓dListR1_ap, ↓dNews_ap, ↓dKid_ap, ↓dKidK_ap, ↓dIxV_ap, ↓dDisp3_ap, ↓iDict_ap, ↓dListR2_ap, ↓dCallV_ap, ↓dRevL_ap, ↓dRdV_ap, ↓dCallB_ap, ↓dLenSet_ap, ↓dFld_ap, ↓dFPut_ap, ↓dFPutZ_ap, ↓dRetN_ap, ↓dMth_ap, ↓dMake_ap, ↓dAppNew_ap, ↓dLenLL_ap, ↓dNewLL_ap, ↓dLcQ_ap, ↓iEnumTD_ap, ↓dSortSet_ap, ↓dMaxDef_ap, ↓dRevT_ap, ↓dNo_ap, ↓dPar2_ap, ↓dCB1_ap, ↓setW_t, ↓setW_pk, ↓isB_bl, ↓isI_int, ↓fzP_t, ↓withD_nil, ↓withD_d, ↓addD_i, ↓addD_l, ↓addD_t, ↓subD_i, ↓mulD_i, ↓mulD_l, ↓mulD_t, ↓divD_i, ↓modD_i, ↓powD_i, ↓negD_i, ↓cmpI_i, ↓eqD_ap, ↓neD_ap, ↓inD_l, ↓inD_t, ↓inD_ki, ↓inD_kt, ↓getD'_some, ↓ixD_l, ↓ixD_t, ↓ixD_s, ↓ixD_ki, ↓ixD_kt, ↓lenD_l, ↓lenD_t, ↓lenD_s, ↓min2D_i, ↓max2D_i, ↓absD_i, ↓intD_i, ↓intD_b, ↓listD_l, ↓listD_t, ↓tupleD_l, ↓tupleD_t, ↓dictTD_l, ↓reprN_ap, ↓isinstD_ap, ↓sliceD_l, ↓sliceD_t, ↓oSome_ap', ↓appendN_ap, ↓extendN_ap, ↓popN_ap, ↓popAtN_ap, ↓reverseN_ap, ↓setL'_some, ↓storeN_l, ↓storeN_k, ↓storeN_t, ↓kidM_mixed, ↓kidM_turn, ↓kidM_wide, ↓kid_wide, ↓setKid_wide, ↓storeN_turn, ↓penM_eq, ↓fzW_tt, ↓fzW_pk, ↓rdW_t, ↓rdW_pk, ↓rdT_fz, ↓rdT_ls, ↓rdT_dk, ↓rdT_dt, ↓fzT_fz, ↓fzT_ls, ↓fzT_dk, ↓fzT_dt, atE_none, setE_none, atE_some, setE_some, lendE, backE, atI_0, atI_1, atI_2, atI_3, ixN_0, ixN_1, ixN_2, DL.keyOf, keysOf, T.ty, retW, List.map_cons, List.map_nil, List.cons_append, List.nil_append, List.replicate, List.getElem?_cons_zero, List.getElem?_cons_succ, List.set_cons_zero, List.set_cons_succ, List.length_cons, List.length_nil, Option.map_some, Option.map_none, List.take_succ_cons, List.take_zero, List.take_nil]
    have hx := mod_in (a := l') (b := m) hm
    exact ⟨hm, by decide, ⟨hm, lt_big hm2⟩, .inl trivial, q p' (l' / m) _ h1 (Int.ediv_nonneg h2 (by omega)) hx.1 hx.2⟩
theorem ok__law_next {f : Addr} {fd : FuncData} (Fd : C8.Def K mg "_law_next" s__law_next f fd) (bd : Binds K fd ["_law_pen", "_law_many"] []) (h__law_fill : Fn P w K mg base 1 "_law_fill" 2 0 F__law_fill) (T_len : mg "len" = none) : Fn P w K mg base 2 "_law_next" 2 1 F__law_next := by
  refine fn_mk (body := b__law_next) Fd bd sc__law_next rfl (by decide) (fun cdv A outer s H E hgd hr => ?_) law__law_next
  have nd := sc__law_next.nd
  have hu64 := hr.units
  have hu65 := hu65 hr
  have hu1 := hu1 hr
  have hu2 := hu2 hr
  have hu0 := hr.units0
  exact (dss_cons (ds_cut (ds_if (dt_cmp lt_ok (nomark _) (de_ix hu1 (de_var (pv 0)) de_int (fun _ _ => rfl)) (de_var (pv 1))) (dss_cons (ds_set (i := 3) nd rfl (.inl rfl) (de_ix hu1 (de_var (pv 0)) de_int (fun _ _ => rfl)) (by decide))
    (dss_cons (ds_set (i := 4) nd rfl (.inl rfl) de_int (by decide))
    (dss_cons (ds_cut (ds_if (dt_cmp lt_ok (nomark _) (de_var (pv 3)) (de_cb1 len_ok (by rfl) T_len (by decide +kernel) (de_ix hu1 (de_var (pv 0)) de_int (fun _ _ => rfl)))) (dss_one (ds_set (i := 4) nd rfl (.inl rfl) (de_ix hu1 (de_ix hu1 (de_var (pv 0)) de_int (fun _ _ => rfl)) (de_var (pv 3)) (fun _ _ => rfl)) (by decide))) (dss_one (ds_if (dt_cmp gt_ok (nomark _) (de_cb1 len_ok (by rfl) T_len (by decide +kernel) (de_ix hu1 (de_var (pv 0)) de_int (fun _ _ => rfl))) de_int) (dss_one (ds_set (i := 4) nd rfl (.inl rfl) (de_bin add_ok (de_bin mod_ok (de_ix hu1 (de_ix hu1 (de_var (pv 0)) de_int (fun _ _ => rfl)) (de_bin mod_ok (de_bin mul_ok (de_var (pv 3)) de_int) (de_cb1 len_ok (by rfl) T_len (by decide +kernel) (de_ix hu1 (de_var (pv 0)) de_int (fun _ _ => rfl)))) (fun _ _ => rfl)) de_int) (de_bin mul_ok (de_var (pv 3)) de_int)) (by decide))) dss_nil))))
    (dss_cons (ds_store hu1 (de_bin add_ok (de_var (pv 3)) de_int) (de_var (pv 0)) de_int)
    (dss_one (ds_store hu1 (de_call h__law_fill hgd hr (by decide) (by rfl) (da_cons (de_var (pv 4)) (da_cons (de_var (pv 3)) da_nil))) (de_var (pv 0)) de_int)))))) dss_nil))
    (dss_cons (ds_set (i := 2) nd rfl (.inl rfl) (de_bin mod_ok (de_ix hu1 (de_var (pv 0)) de_int (fun _ _ => rfl)) (de_var (pv 1))) (by decide))
    (dss_cons (ds_store hu1 (de_bin div_ok (de_ix hu1 (de_var (pv 0)) de_int (fun _ _ => rfl)) (de_var (pv 1))) (de_var (pv 0)) de_int)
    (dss_one (ds_ret (de_var (pv 2)))))))
abbrev s__law_web : Stmt := topS 21
theorem sc__law_web : FnScope ["_law_pen", "_law_most", "_law_n", "_law_some", "_law_ties", "_law_a", "_law_way", "_law_rate", "_law_b", "_law_place", "_law_tied"] ["_law_pen", "_law_most"] (C8.fnScope s__law_web) := C8.fnScope_by (by decide +kernel)
def w__law_web (pen : PenN) (most : Int) (Q : PenN → (Int × (List (Int × Int))) → Prop) : Prop :=
  w__law_next pen (most + (1 : Int)) fun pen1 x =>
  w__law_next pen1 (4 : Int) fun pen2 x1 =>
  w__law_next pen2 (3 : Int) fun pen3 x2 =>
  (-(2 ^ 62) ≤ x ∧ x < 2 ^ 62) ∧ wFor2 (irange 0 x) pen3 ([] : List Int) (fun pen4 acc (place : Int) nx =>
  (acc.length < 10000000) ∧ w__law_next pen4 (2 : Int) fun pen5 x3 =>
  nx pen5 (acc ++ [x3]))
  (fun (pen4 : PenN) (acc : List Int) =>
  bnd (([] : List (Int × Int))) fun ties =>
  (-(2 ^ 62) ≤ x ∧ x < 2 ^ 62) ∧ wFor2 (irange 0 x) pen4 ties (fun pen6 ties1 (a : Int) nx =>
  (-(2 ^ 62) ≤ a + (1 : Int) ∧ a + (1 : Int) < 2 ^ 62 ∧ -(2 ^ 62) ≤ x ∧ x < 2 ^ 62) ∧ wFor2 (irange (a + (1 : Int)) x) pen6 ties1 (fun pen7 ties2 (b : Int) nx =>
  w__law_next pen7 (4 : Int) fun pen8 x4 =>
  wJ1 (fun j1 =>
  ((decide (x1 = (0 : Int))) = true → (InR acc a) ∧ ((decide (gi acc a = (1 : Int))) = true → (InR acc b))) ∧ wIf ((decide (x1 = (0 : Int))) && ((decide (gi acc a = (1 : Int))) && (decide (gi acc b = (1 : Int)))))
  (j1 true)
  (j1 (decide (x4 < (1 : Int) + x2))))
  (fun (tied : Bool) => wJ1 (fun j2 =>
  wIf (decide (x1 = (1 : Int)))
  (bnd ((decide (b - a = (1 : Int))) || (decide (b - a = x - (1 : Int)))) fun tied2 =>
  j2 tied2)
  (j2 tied))
  (fun (tied1 : Bool) => wJ1 (fun j3 =>
  wIf (tied1)
  ((ties2.length < 10000000) ∧ bnd (ties2 ++ [(a, b)]) fun ties4 =>
  j3 ties4)
  (j3 ties2))
  (fun (ties3 : List (Int × Int)) => nx pen8 ties3))))
  (fun (pen7 : PenN) (ties2 : List (Int × Int)) => nx pen7 ties2))
  (fun (pen6 : PenN) (ties1 : List (Int × Int)) => Q pen6 (x, ties1)))
theorem spec__law_web {pen : PenN} {most : Int} {Q : PenN → Web → Prop} (hp : NOk pen) (h0 : 0 ≤ most) (h1 : most ≤ 60) (q : ∀ pen w, NOk pen → IsWeb w → w.1 ≤ most → Q pen w) : w__law_web pen most Q := by
  unfold w__law_web
  refine drawN hp (by omega) (by omega) fun pen n hp n0 n1 => ?_
  refine drawN hp (by omega) (by omega) fun pen way hp _ _ => ?_
  refine drawN hp (by omega) (by omega) fun pen rate hp _ _ => ?_
  refine ⟨by omega, ?_⟩
  refine wFor2_z n0 (fun k pen acc => NOk pen ∧ acc.length = k.toNat) ⟨hp, rfl⟩ ?_ ?_
  · rintro pen acc ⟨hp, hl⟩
    rintro _ rfl
    refine ⟨by omega, ?_⟩
    refine wFor2_z n0 (fun a pen ties => NOk pen ∧ ties.Sublist (rowsTo n (fun _ _ => true) a)) ⟨hp, by simp⟩ ?_ ?_
    · rintro pen ties ⟨hp, hs⟩
      refine q _ _ hp (rows_web n0 ?_) (by show n ≤ most; omega)
      rw [rowsTo_n] at hs
      exact hs.trans List.filter_sublist
    · rintro a pen ties C a0 a1 ⟨hp, hs⟩ k
      refine ⟨by omega, ?_⟩
      have hl4 := rowsTo_len (n := n) (fun _ _ => true) a0 (Int.le_of_lt a1)
      have hl2 : a.toNat * n.toNat ≤ 64 * 64 := Nat.mul_le_mul (by omega) (by omega)
      refine wFor2_z (by omega) (fun b pen t => NOk pen ∧ t.Sublist (rowsTo n (fun _ _ => true) a ++ rowTo (fun _ _ => true) a b)) ⟨hp, by rw [rowTo_0]; simpa using hs⟩ ?_ ?_
      · rintro pen t ⟨hp, hs⟩
        refine k _ _ ⟨hp, ?_⟩
        rw [rowsTo_snoc _ a0]; exact hs
      · rintro b pen t C b0 b1' ⟨hp, hs⟩ k
        have hl3 := Nat.le_trans hs.length_le (by rw [List.length_append]; exact Nat.add_le_add_left rowTo_len _)
        have yes : rowsTo n (fun _ _ => true) a ++ rowTo (fun _ _ => true) a (b + 1) = rowsTo n (fun _ _ => true) a ++ rowTo (fun _ _ => true) a b ++ [(a, b)] := by rw [rowTo_yes (by omega) rfl, List.append_assoc]
        refine drawN hp (by omega) (by omega) fun pen x hp _ _ => ?_
        refine ⟨fun _ => True, ⟨fun _ => ⟨inR a0 (by omega), fun _ => inR (by omega) (by omega)⟩, fun _ => trivial, fun _ => trivial⟩, fun tied _ => ?_⟩
        refine ⟨fun _ => True, ⟨fun _ => fun _ _ => trivial, fun _ => trivial⟩, fun tied _ => ?_⟩
        refine ⟨fun t => t.Sublist (rowsTo n (fun _ _ => true) a ++ rowTo (fun _ _ => true) a (b + 1)), ⟨fun _ => ⟨by omega, ?_⟩, fun _ => ?_⟩, fun t hs => k _ _ ⟨hp, hs⟩⟩
        · rintro _ rfl
          rw [yes]
          exact List.Sublist.append hs (List.Sublist.refl _)
        · rw [yes]
          exact hs.trans (List.sublist_append_left _ _)
  · rintro k pen acc C k0 k1 ⟨hp, hl⟩ c
    refine ⟨by omega, drawN hp (by omega) (by omega) fun pen x hp _ _ => ?_⟩
    exact c _ _ ⟨hp, by simp; omega⟩
def F__law_web : FS := fun ts R => ∃ (pen : PenN) (most : Int) (P : PenN → (Int × (List (Int × Int))) → Prop), ts = [(pen.T), (.fz (D.int most))] ∧ w__law_web pen most P ∧ ∀ (pen_ : PenN) (r : Int × (List (Int × Int))), P pen_ r → R [some (pen_.T)] ((.fz ((eP D.int (eU (eP D.int D.int))) r)))
def b__law_web : DTS := (dSeq (dSet 2 (dCall 2 F__law_next (dALend 0 (dAConsP (dBin addD true (dVar 1) (dConst (.fz (.int 1)))) dNil))))
    (dSeq (dPar 6 7 (dACons (dCall 2 F__law_next (dALend 0 (dAConsP (dConst (.fz (.int 4))) dNil))) (dACons (dBin addD false (dConst (.fz (.int 1))) (dCall 2 F__law_next (dALend 0 (dAConsP (dConst (.fz (.int 3))) dNil)))) dNil)))
    (dSeq (dSet 3 (dLc (iRange1 (dACons (dVar 2) dNil)) (gN 9) dYes (dCall 2 F__law_next (dALend 0 (dAConsP (dConst (.fz (.int 2))) dNil))) [9]))
    (dSeq (dSet 4 (dLst dNil))
    (dSeq (dFor (iRange1 (dACons (dVar 2) dNil)) (gN 5) (dSeq (dFor (iRange2 (dAConsP (dBin addD true (dVar 5) (dConst (.fz (.int 1)))) (dACons (dVar 2) dNil))) (gN 8) (dSeq (dSet 10 (dBin (cmpI fun i j => decide (i < j)) true (dCall 2 F__law_next (dALend 0 (dAConsP (dConst (.fz (.int 4))) dNil))) (dVar 7)))
    (dSeq (dCut (dIf (dAnd (dVal (dBin eqD true (dVar 6) (dConst (.fz (.int 0))))) (dAnd (dVal (dBin eqD true (dBin ixD true (dVar 3) (dVar 5)) (dConst (.fz (.int 1))))) (dVal (dBin eqD true (dBin ixD true (dVar 3) (dVar 8)) (dConst (.fz (.int 1))))))) (dSeq (dSet 10 (dConst (.fz (.bl true))))
    dNext) dNext))
    (dSeq (dCut (dIf (dVal (dBin eqD true (dVar 6) (dConst (.fz (.int 1))))) (dSeq (dSet 10 (dOrV (dBin eqD true (dBin subD true (dVar 8) (dVar 5)) (dConst (.fz (.int 1)))) (dBin eqD true (dBin subD true (dVar 8) (dVar 5)) (dBin subD true (dVar 2) (dConst (.fz (.int 1)))))))
    dNext) dNext))
    (dSeq (dCut (dIf (dVal (dVar 10)) (dSeq (dExpr (dMeth "list" appendN false (dVar 4) (dACons (dTup (dACons (dVar 5) (dACons (dVar 8) dNil))) dNil)))
    dNext) dNext))
    (dSeq (dKill [8, 10]) dNext))))))
    (dSeq (dKill [5]) dNext)))
    (dRet (dTup (dACons (dVar 2) (dAConsP (dCB1 (fun y R => tupleD [y] R) (dVar 4)) dNil)))))))))
set_option maxHeartbeats 4000000 in
theorem law__law_web : ∀ ts R, ts.length = 2 → F__law_web ts R → b__law_web ⟨fun G => R (G.take 1) (.fz .non), retW 1 R⟩ (ts.map some ++ List.replicate ((["_law_pen", "_law_most", "_law_n", "_law_some", "_law_ties", "_law_a", "_law_way", "_law_rate", "_law_b", "_law_place", "_law_tied"] : List Str).length - 2) none) := by
  rintro ts R - ⟨pen, most, P, rfl, h, hR⟩
  unfold w__law_web at h
  unfold b__law_web
  refine q_env (G2 := [some (pen.T), some (.fz (D.int most)), none, none, none, none, none, none, none, none, none]) rfl ?_
  refine q_set ?_
  refine q_call ?_
  refine a_lend rfl ?_
  refine a_consP (sp_bin (sp_var_fz (i := 1) rfl) rd_fz sp_con rd_fz k_add) fz_fz ?_
  refine a_nil ?_
  refine c_fin1 (fun (p : PenN) => p.T) (fun (x : Int) => (.fz (D.int x))) (fun (pp_ : PenN) => [some (pp_.T), some (.fz (D.int most)), none, none, none, none, none, none, none, none, none]) rfl rfl (fun R hR => ⟨pen, (most + (1 : Int)), _, rfl, h, hR⟩) (fun _ => rfl) (fun pen1 x h => ?_)
  refine w_set (G' := [some (pen1.T), some (.fz (D.int most)), some (.fz (D.int x)), none, none, none, none, none, none, none, none]) (lt_l rfl) rfl ?_
  refine q_par ?_
  refine q_acons ?_
  refine q_call ?_
  refine a_lend rfl ?_
  refine a_consP sp_con fz_fz ?_
  refine a_nil ?_
  refine c_fin1 (fun (p : PenN) => p.T) (fun (x : Int) => (.fz (D.int x))) (fun (pp_ : PenN) => [some (pp_.T), some (.fz (D.int most)), some (.fz (D.int x)), none, none, none, none, none, none, none, none]) rfl rfl (fun R hR => ⟨pen1, (4 : Int), _, rfl, h, hR⟩) (fun _ => rfl) (fun pen2 x1 h => ?_)
  refine w_acons fz_fz ?_
  refine q_acons ?_
  refine q_bin ?_
  refine sp_con _ ?_
  refine w_bin1 fz_fz ?_
  refine q_call ?_
  refine a_lend rfl ?_
  refine a_consP sp_con fz_fz ?_
  refine a_nil ?_
  refine c_fin1 (fun (p : PenN) => p.T) (fun (x : Int) => (.fz (D.int x))) (fun (pp_ : PenN) => [some (pp_.T), some (.fz (D.int most)), some (.fz (D.int x)), none, none, none, none, none, none, none, none]) rfl rfl (fun R hR => ⟨pen2, (3 : Int), _, rfl, h, hR⟩) (fun _ => rfl) (fun pen3 x2 h => ?_)
  refine w_bin2 rd_fz k_add ?_
  refine w_acons fz_fz ?_
  refine a_nil ?_
  refine w_par (G' := [some (pen3.T), some (.fz (D.int most)), some (.fz (D.int x)), none, none, none, some (.fz (D.int x1)), some (.fz (D.int ((1 : Int) + x2))), none, none, none]) (lt_l rfl) (lt_l rfl) rfl ?_
  refine q_set ?_
  obtain ⟨q1, h⟩ := h
  refine q_lc1 D.int D.int (fun (pen4 : PenN) => [some (pen4.T), some (.fz (D.int most)), some (.fz (D.int x)), none, none, none, some (.fz (D.int x1)), some (.fz (D.int ((1 : Int) + x2))), none, none, none]) (si_range1 (sa_cons (sp_var_fz (i := 2) rfl) fz_fz sa_nil) q1) h (vs := [9]) (fun pen4 acc place P C h hC => ?_) (fun pen4 => rfl) (fun pen4 acc h => ?_)
  · obtain ⟨q0, h⟩ := h
    refine ⟨by simpa using q0, ?_⟩
    refine (sg_name (G' := [some (pen4.T), some (.fz (D.int most)), some (.fz (D.int x)), none, none, none, some (.fz (D.int x1)), some (.fz (D.int ((1 : Int) + x2))), none, some (.fz (D.int place)), none]) (lt_l rfl) rfl) _ ?_
    refine w_yes ?_
    refine q_call ?_
    refine a_lend rfl ?_
    refine a_consP sp_con fz_fz ?_
    refine a_nil ?_
    refine c_fin1 (fun (p : PenN) => p.T) (fun (x : Int) => (.fz (D.int x))) (fun (pp_ : PenN) => [some (pp_.T), some (.fz (D.int most)), some (.fz (D.int x)), none, none, none, some (.fz (D.int x1)), some (.fz (D.int ((1 : Int) + x2))), none, some (.fz (D.int place)), none]) rfl rfl (fun R hR => ⟨pen4, (2 : Int), _, rfl, h, hR⟩) (fun _ => rfl) (fun pen5 x3 h => ?_)
    refine FZ.w fz_fz ?_
    exact hC _ _ _ _ h (by rw [List.map_append]; rfl) rfl
  refine w_set (G' := [some (pen4.T), some (.fz (D.int most)), some (.fz (D.int x)), some (tLs D.int acc), none, none, some (.fz (D.int x1)), some (.fz (D.int ((1 : Int) + x2))), none, none, none]) (lt_l rfl) rfl ?_
  refine p_setB (fun x => (tLs (eP D.int D.int) x)) (G' := fun ties => [some (pen4.T), some (.fz (D.int most)), some (.fz (D.int x)), some (tLs D.int acc), some (tLs (eP D.int D.int) ties), none, some (.fz (D.int x1)), some (.fz (D.int ((1 : Int) + x2))), none, none, none]) h (sp_lst sa_nil rfl (Nat.le_of_ble_eq_true rfl)) (lt_l rfl) (fun _ => rfl) fun ties h => ?_
  obtain ⟨q2, h⟩ := h
  refine q_for2 D.int (fun (pen6 : PenN) (ties1 : List (Int × Int)) => [some (pen6.T), some (.fz (D.int most)), some (.fz (D.int x)), some (tLs D.int acc), some (tLs (eP D.int D.int) ties1), none, some (.fz (D.int x1)), some (.fz (D.int ((1 : Int) + x2))), none, none, none]) (si_range1 (sa_cons (sp_var_fz (i := 2) rfl) fz_fz sa_nil) q2) rfl h (fun pen6 ties1 a P C h hC => ?_) (fun pen6 ties1 h => ?_)
  · refine (sg_name (G' := [some (pen6.T), some (.fz (D.int most)), some (.fz (D.int x)), some (tLs D.int acc), some (tLs (eP D.int D.int) ties1), some (.fz (D.int a)), some (.fz (D.int x1)), some (.fz (D.int ((1 : Int) + x2))), none, none, none]) (lt_l rfl) rfl) _ ?_
    obtain ⟨q3, h⟩ := h
    refine q_for2 D.int (fun (pen7 : PenN) (ties2 : List (Int × Int)) => [some (pen7.T), some (.fz (D.int most)), some (.fz (D.int x)), some (tLs D.int acc), some (tLs (eP D.int D.int) ties2), some (.fz (D.int a)), some (.fz (D.int x1)), some (.fz (D.int ((1 : Int) + x2))), none, none, none]) (si_range2 (sa_consP (sp_bin (sp_var_fz (i := 5) rfl) rd_fz sp_con rd_fz k_add) fz_fz (sa_cons (sp_var_fz (i := 2) rfl) fz_fz sa_nil)) q3) rfl h (fun pen7 ties2 b P C h hC => ?_) (fun pen7 ties2 h => ?_)
    · refine (sg_name (G' := [some (pen7.T), some (.fz (D.int most)), some (.fz (D.int x)), some (tLs D.int acc), some (tLs (eP D.int D.int) ties2), some (.fz (D.int a)), some (.fz (D.int x1)), some (.fz (D.int ((1 : Int) + x2))), some (.fz (D.int b)), none, none]) (lt_l rfl) rfl) _ ?_
      refine q_set ?_
      refine q_bin ?_
      refine q_call ?_
      refine a_lend rfl ?_
      refine a_consP sp_con fz_fz ?_
      refine a_nil ?_
      refine c_fin1 (fun (p : PenN) => p.T) (fun (x : Int) => (.fz (D.int x))) (fun (pp_ : PenN) => [some (pp_.T), some (.fz (D.int most)), some (.fz (D.int x)), some (tLs D.int acc), some (tLs (eP D.int D.int) ties2), some (.fz (D.int a)), some (.fz (D.int x1)), some (.fz (D.int ((1 : Int) + x2))), some (.fz (D.int b)), none, none]) rfl rfl (fun R hR => ⟨pen7, (4 : Int), _, rfl, h, hR⟩) (fun _ => rfl) (fun pen8 x4 h => ?_)
      refine w_bin1 fz_fz ?_
      refine (sp_var_fz (i := 7) rfl) _ ?_
      refine w_bin2 rd_fz k_lt ?_
      refine w_set (G' := [some (pen8.T), some (.fz (D.int most)), some (.fz (D.int x)), some (tLs D.int acc), some (tLs (eP D.int D.int) ties2), some (.fz (D.int a)), some (.fz (D.int x1)), some (.fz (D.int ((1 : Int) + x2))), some (.fz (D.int b)), none, some (.fz (D.bl (decide (x4 < (1 : Int) + x2))))]) (lt_l rfl) rfl ?_
      refine q_cut1 (fun (tied : Bool) => [some (pen8.T), some (.fz (D.int most)), some (.fz (D.int x)), some (tLs D.int acc), some (tLs (eP D.int D.int) ties2), some (.fz (D.int a)), some (.fz (D.int x1)), some (.fz (D.int ((1 : Int) + x2))), some (.fz (D.int b)), none, some (.fz (D.bl tied))]) h (fun j1 h => ?_) (fun tied h => ?_)
      · obtain ⟨q7, h⟩ := h
        refine p_if (st_and (st_val (sp_bin (sp_var_fz (i := 6) rfl) rd_fz sp_con rd_fz (k_eq (a := x1) (b := (0 : Int)) ok_int (Nat.le_of_ble_eq_true rfl))) rd_fz) (fun hb => (have ⟨q4, q6⟩ := q7 hb; (st_and (st_val (sp_bin (sp_bin (sp_var (i := 3) rfl trivial) (rd_pk rfl rfl) (sp_var_fz (i := 5) rfl) rd_fz (k_ixL (e := D.int) q4)) rd_fz sp_con rd_fz (k_eq (a := gi acc a) (b := (1 : Int)) ok_int (Nat.le_of_ble_eq_true rfl))) rd_fz) (fun hb => (have q5 := q6 hb; (st_val (sp_bin (sp_bin (sp_var (i := 3) rfl trivial) (rd_pk rfl rfl) (sp_var_fz (i := 8) rfl) rd_fz (k_ixL (e := D.int) q5)) rd_fz sp_con rd_fz (k_eq (a := gi acc b) (b := (1 : Int)) ok_int (Nat.le_of_ble_eq_true rfl))) rd_fz))))))) (fun hb => ?_) (fun hb => ?_)
        · replace h := h.1 hb
          refine p_set (G' := [some (pen8.T), some (.fz (D.int most)), some (.fz (D.int x)), some (tLs D.int acc), some (tLs (eP D.int D.int) ties2), some (.fz (D.int a)), some (.fz (D.int x1)), some (.fz (D.int ((1 : Int) + x2))), some (.fz (D.int b)), none, some (.fz (D.bl true))]) sp_con (lt_l rfl) rfl ?_
          exact ⟨_, h, rfl⟩
        · replace h := h.2 hb
          exact ⟨_, h, rfl⟩
      refine q_cut1 (fun (tied1 : Bool) => [some (pen8.T), some (.fz (D.int most)), some (.fz (D.int x)), some (tLs D.int acc), some (tLs (eP D.int D.int) ties2), some (.fz (D.int a)), some (.fz (D.int x1)), some (.fz (D.int ((1 : Int) + x2))), some (.fz (D.int b)), none, some (.fz (D.bl tied1))]) h (fun j2 h => ?_) (fun tied1 h => ?_)
      · refine p_if (st_val (sp_bin (sp_var_fz (i := 6) rfl) rd_fz sp_con rd_fz (k_eq (a := x1) (b := (1 : Int)) ok_int (Nat.le_of_ble_eq_true rfl))) rd_fz) (fun hb => ?_) (fun hb => ?_)
        · replace h := h.1 hb
          refine p_setB (fun x => (.fz (D.bl x))) (G' := fun tied2 => [some (pen8.T), some (.fz (D.int most)), some (.fz (D.int x)), some (tLs D.int acc), some (tLs (eP D.int D.int) ties2), some (.fz (D.int a)), some (.fz (D.int x1)), some (.fz (D.int ((1 : Int) + x2))), some (.fz (D.int b)), none, some (.fz (D.bl tied2))]) h (sp_or (sp_bin (sp_bin (sp_var_fz (i := 8) rfl) rd_fz (sp_var_fz (i := 5) rfl) rd_fz k_sub) rd_fz sp_con rd_fz (k_eq (a := b - a) (b := (1 : Int)) ok_int (Nat.le_of_ble_eq_true rfl))) rd_fz (fun hb => (sp_bin (sp_bin (sp_var_fz (i := 8) rfl) rd_fz (sp_var_fz (i := 5) rfl) rd_fz k_sub) rd_fz (sp_bin (sp_var_fz (i := 2) rfl) rd_fz sp_con rd_fz k_sub) rd_fz (k_eq (a := b - a) (b := x - (1 : Int)) ok_int (Nat.le_of_ble_eq_true rfl))))) (lt_l rfl) (fun _ => rfl) fun tied2 h => ?_
          exact ⟨_, h, rfl⟩
        · replace h := h.2 hb
          exact ⟨_, h, rfl⟩
      refine q_cut1 (fun (ties3 : List (Int × Int)) => [some (pen8.T), some (.fz (D.int most)), some (.fz (D.int x)), some (tLs D.int acc), some (tLs (eP D.int D.int) ties3), some (.fz (D.int a)), some (.fz (D.int x1)), some (.fz (D.int ((1 : Int) + x2))), some (.fz (D.int b)), none, some (.fz (D.bl tied1))]) h (fun j3 h => ?_) (fun ties3 h => ?_)
      · refine p_if (st_val (sp_var_fz (i := 10) rfl) rd_fz) (fun hb => ?_) (fun hb => ?_)
        · replace h := h.1 hb
          obtain ⟨q8, h⟩ := h
          obtain ⟨ties4, e_ties4, h⟩ := h.get
          refine p_app (i := 4) (e := (eP D.int D.int)) (x := (a, b)) rfl (sa_cons (sp_tup (sa_cons (sp_var_fz (i := 5) rfl) fz_fz (sa_cons (sp_var_fz (i := 8) rfl) fz_fz sa_nil)) rfl (Nat.le_of_ble_eq_true rfl)) fz_fz sa_nil) q8 (G' := [some (pen8.T), some (.fz (D.int most)), some (.fz (D.int x)), some (tLs D.int acc), some (tLs (eP D.int D.int) ties4), some (.fz (D.int a)), some (.fz (D.int x1)), some (.fz (D.int ((1 : Int) + x2))), some (.fz (D.int b)), none, some (.fz (D.bl tied1))]) (by subst e_ties4; rfl) ?_
          exact ⟨_, h, rfl⟩
        · replace h := h.2 hb
          exact ⟨_, h, rfl⟩
      refine p_kill (G' := [some (pen8.T), some (.fz (D.int most)), some (.fz (D.int x)), some (tLs D.int acc), some (tLs (eP D.int D.int) ties3), some (.fz (D.int a)), some (.fz (D.int x1)), some (.fz (D.int ((1 : Int) + x2))), none, none, none]) rfl ?_
      exact hC _ _ h
    refine p_kill (G' := [some (pen7.T), some (.fz (D.int most)), some (.fz (D.int x)), some (tLs D.int acc), some (tLs (eP D.int D.int) ties2), none, some (.fz (D.int x1)), some (.fz (D.int ((1 : Int) + x2))), none, none, none]) rfl ?_
    exact hC _ _ h
  exact p_ret (sp_tup (sa_cons (sp_var_fz (i := 2) rfl) fz_fz (sa_consP (sp_cb1 (sp_var (i := 4) rfl trivial) (rd_pk rfl rfl) k_tupL) fz_fz sa_nil)) rfl (Nat.le_of_ble_eq_true rfl)) (hR _ _ h)
theorem ok__law_web {f : Addr} {fd : FuncData} (Fd : C8.Def K mg "_law_web" s__law_web f fd) (bd : Binds K fd ["_law_pen", "_law_most"] []) (h__law_next : Fn P w K mg base 2 "_law_next" 2 1 F__law_next) (T_range : mg "range" = none) (T_tuple : mg "tuple" = none) : Fn P w K mg base 3 "_law_web" 2 1 F__law_web := by
  refine fn_mk (body := b__law_web) Fd bd sc__law_web rfl (by decide) (fun cdv A outer s H E hgd hr => ?_) law__law_web
  have nd := sc__law_web.nd
  have hu64 := hr.units
  have hu65 := hu65 hr
  have hu1 := hu1 hr
  have hu2 := hu2 hr
  have hu0 := hr.units0
  exact (dss_cons (ds_set (i := 2) nd rfl (.inl rfl) (de_call h__law_next hgd hr (by decide) (by rfl) (da_lend (pv 0) (da_consP (de_bin add_ok (de_var (pv 1)) de_int) da_nil))) (by decide))
    (dss_cons (ds_par (i := 6) (j := 7) rfl nd rfl rfl (by decide) rfl rfl (by decide) (by decide) (da_cons (de_call h__law_next hgd hr (by decide) (by rfl) (da_lend (pv 0) (da_consP de_int da_nil))) (da_cons (de_bin add_ok de_int (de_call h__law_next hgd hr (by decide) (by rfl) (da_lend (pv 0) (da_consP de_int da_nil)))) da_nil)))
    (dss_cons (ds_setLc (i := 3) (own := [("_law_place", 9)]) rfl nd rfl rfl (sw_true rfl rfl rfl (by decide +kernel)) (by decide) (di_range1 (by rfl) T_range (da_cons (de_var (pv 2)) da_nil)) (blkOk_by (N := ["_law_pen", "_law_most", "_law_n", "_law_some", "_law_ties", "_law_a", "_law_way", "_law_rate", "_law_b", "_law_place", "_law_tied"]) (sc := C8.fnScope s__law_web) (by decide +kernel)) (fun _ _ _ _ _ => (dg_name (i := 9) (pg_name (i := 9) nd rfl (by first | exact .inl rfl | exact .inr rfl)) (fun σ x => wipe_set x (by decide)))) (fun _ _ _ _ _ => dts_nil) (fun _ _ _ _ _ => (de_call h__law_next hgd hr (by decide) (by rfl) (da_lend (pv 0) (da_consP de_int da_nil)))))
    (dss_cons (ds_set (i := 4) nd rfl (.inl rfl) (de_lst da_nil) (by decide))
    (dss_cons (ds_for PassesOwn.never rfl (di_range1 (by rfl) T_range (da_cons (de_var (pv 2)) da_nil)) (dg_name (i := 5) (pg_name (i := 5) nd rfl (.inl rfl)) (fun _ _ => take_set (by decide))) (dss_cons (ds_for PassesOwn.never rfl (di_range2 (by rfl) T_range (da_consP (de_bin add_ok (de_var (pv 5)) de_int) (da_cons (de_var (pv 2)) da_nil))) (dg_name (i := 8) (pg_name (i := 8) nd rfl (.inl rfl)) (fun _ _ => take_set (by decide))) (dss_cons (ds_set (i := 10) nd rfl (.inl rfl) (de_cmp lt_ok (nomark _) (de_call h__law_next hgd hr (by decide) (by rfl) (da_lend (pv 0) (da_consP de_int da_nil))) (de_var (pv 7))) (by decide))
    (dss_cons (ds_cut (ds_if (DW.dt (dw_and (dt_cmp (eq_ok hu64) (nomark _) (de_var (pv 6)) de_int) (dw_and (dt_cmp (eq_ok hu64) (nomark _) (de_ix hu1 (de_var (pv 3)) (de_var (pv 5)) (fun _ _ => rfl)) de_int) (dw_and1 (dt_cmp (eq_ok hu64) (nomark _) (de_ix hu1 (de_var (pv 3)) (de_var (pv 8)) (fun _ _ => rfl)) de_int))))) (dss_cons (ds_set (i := 10) nd rfl (.inl rfl) de_bl (by decide))
    dss_nil) dss_nil))
    (dss_cons (ds_cut (ds_if (dt_cmp (eq_ok hu64) (nomark _) (de_var (pv 6)) de_int) (dss_cons (ds_set (i := 10) nd rfl (.inl rfl) (de_or (de_cmp (eq_ok hu64) (nomark _) (de_bin sub_ok (de_var (pv 8)) (de_var (pv 5))) de_int) (de_one (de_cmp (eq_ok hu64) (nomark _) (de_bin sub_ok (de_var (pv 8)) (de_var (pv 5))) (de_bin sub_ok (de_var (pv 2)) de_int)))) (by decide))
    dss_nil) dss_nil))
    (dss_cons (ds_cut (ds_if (dt_val (de_var (pv 10))) (dss_cons (ds_expr (de_meth (by decide) PySem.F.plainAttrs_list PySem.F.slot_list_append PySem.F.type_list_append append_ok (de_var (pv 4)) (da_cons (de_tup (da_cons (de_var (pv 5)) (da_cons (de_var (pv 8)) da_nil))) da_nil)))
    dss_nil) dss_nil))
    (dss_kill [8, 10] dss_nil))))))
    (dss_kill [5] dss_nil)))
    (dss_one (ds_ret (de_tup (da_cons (de_var (pv 2)) (da_consP (de_ct1 tuple_ok (by rfl) T_tuple (by decide +kernel) (de_var (pv 4))) da_nil))))))))))
abbrev s__law_tied : Stmt := topS 22
theorem sc__law_tied : FnScope ["_law_web_here", "_law_a", "_law_b"] ["_law_web_here", "_law_a", "_law_b"] (C8.fnScope s__law_tied) := C8.fnScope_by (by decide +kernel)
def w__law_tied (web_here : Int × (List (Int × Int))) (a : Int) (b : Int) (Q : Bool → Prop) : Prop :=
  Q (inl (min a b, max a b) web_here.2)
theorem spec__law_tied {w : Web} {a b : Int} {Q : Bool → Prop} (q : Q (tie w a b)) : w__law_tied w a b Q := q
def Fw__law_tied : FS := fun ts R => ∃ (web_here : Int × (List (Int × Int))) (a : Int) (b : Int) (P : Bool → Prop), ts = [(.fz ((eP D.int (eU (eP D.int D.int))) web_here)), (.fz (D.int a)), (.fz (D.int b))] ∧ w__law_tied web_here a b P ∧ ∀ (r : Bool), P  r → R [] ((.fz (D.bl r)))
def F__law_tied : FS := fun ts R => ∃ (web_here : Int × (List (Int × Int))) (a : Int) (b : Int), ts = [(.fz ((eP D.int (eU (eP D.int D.int))) web_here)), (.fz (D.int a)), (.fz (D.int b))] ∧ R [] ((.fz (D.bl (tie web_here a b))))
def b__law_tied : DTS := (dRet (dBin (inD false) true (dTup (dACons (dCB min2D (dACons (dVar 1) (dACons (dVar 2) dNil))) (dACons (dCB max2D (dACons (dVar 1) (dACons (dVar 2) dNil))) dNil))) (dBin ixD true (dVar 0) (dConst (.fz (.int 1))))))
set_option maxHeartbeats 4000000 in
theorem sim__law_tied : ∀ ts R, ts.length = 3 → Fw__law_tied ts R → b__law_tied ⟨fun G => R (G.take 0) (.fz .non), retW 0 R⟩ (ts.map some ++ List.replicate ((["_law_web_here", "_law_a", "_law_b"] : List Str).length - 3) none) := by
  rintro ts R - ⟨web_here, a, b, P, rfl, h, hR⟩
  unfold w__law_tied at h
  unfold b__law_tied
  refine q_env (G2 := [some (.fz ((eP D.int (eU (eP D.int D.int))) web_here)), some (.fz (D.int a)), some (.fz (D.int b))]) rfl ?_
  exact p_ret (sp_bin (sp_tup (sa_cons (sp_cb (sa_cons (sp_var_fz (i := 1) rfl) fz_fz (sa_cons (sp_var_fz (i := 2) rfl) fz_fz sa_nil)) rfl k_min2) fz_fz (sa_cons (sp_cb (sa_cons (sp_var_fz (i := 1) rfl) fz_fz (sa_cons (sp_var_fz (i := 2) rfl) fz_fz sa_nil)) rfl k_max2) fz_fz sa_nil)) rfl (Nat.le_of_ble_eq_true rfl)) rd_fz (sp_bin (sp_var_fz (i := 0) rfl) rd_fz sp_con rd_fz k_ix1) rd_fz (k_inU (a := (min a b, max a b)) (l := web_here.2) (ok_pair ok_int ok_int) (Nat.le_of_ble_eq_true rfl))) (hR _ h)
theorem law__law_tied : ∀ ts R, ts.length = 3 → F__law_tied ts R → b__law_tied ⟨fun G => R (G.take 0) (.fz .non), retW 0 R⟩ (ts.map some ++ List.replicate ((["_law_web_here", "_law_a", "_law_b"] : List Str).length - 3) none) := by
  rintro ts R hl ⟨web_here, a, b, rfl, q⟩
  exact sim__law_tied _ R hl ⟨web_here, a, b, fun r => r = tie web_here a b, rfl, spec__law_tied rfl, fun r e => by subst e; exact q⟩
theorem ok__law_tied {f : Addr} {fd : FuncData} (Fd : C8.Def K mg "_law_tied" s__law_tied f fd) (bd : Binds K fd ["_law_web_here", "_law_a", "_law_b"] []) (T_max : mg "max" = none) (T_min : mg "min" = none) : Fn P w K mg base 1 "_law_tied" 3 0 F__law_tied := by
  refine fn_mk (body := b__law_tied) Fd bd sc__law_tied rfl (by decide) (fun cdv A outer s H E hgd hr => ?_) law__law_tied
  have nd := sc__law_tied.nd
  have hu64 := hr.units
  have hu65 := hu65 hr
  have hu1 := hu1 hr
  have hu2 := hu2 hr
  have hu0 := hr.units0
  exact (dss_one (ds_ret (de_cmp (in_ok hu65) rfl (de_tup (da_cons (de_cbN (min2_ok rfl) (by rfl) T_min (by decide +kernel) (da_cons (de_var (pv 1)) (da_cons (de_var (pv 2)) da_nil))) (da_cons (de_cbN (max2_ok rfl) (by rfl) T_max (by decide +kernel) (da_cons (de_var (pv 1)) (da_cons (de_var (pv 2)) da_nil))) da_nil))) (de_ix hu1 (de_var (pv 0)) de_int (fun _ _ => rfl)))))
abbrev s__law_knots : Stmt := topS 24
theorem sc__law_knots : FnScope ["_law_web_here", "_law_pairs", "_law_pair", "_law_found", "_law_place", "_law_more", "_law_knot", "_law_other"] ["_law_web_here"] (C8.fnScope s__law_knots) := C8.fnScope_by (by decide +kernel)
def w__law_knots (web_here : Int × (List (Int × Int))) (Q : (List (List Int)) → Prop) : Prop :=
  bnd (([] : List ((Int × Int) × Bool))) fun pairs =>
  wFor1 (web_here.2) pairs (fun pairs1 (pair : Int × Int) nx =>
  ((pairs1.map (·.1)).Nodup ∧ pairs1.length < 10000000) ∧ bnd (putM pairs1 pair true) fun pairs2 =>
  nx pairs2)
  (fun (pairs1 : List ((Int × Int) × Bool)) => bnd ([([] : List Int)]) fun found =>
  (-(2 ^ 62) ≤ web_here.1 ∧ web_here.1 < 2 ^ 62) ∧ wFor1 (irange 0 web_here.1) found (fun found1 (place : Int) nx =>
  bnd (([] : List (List Int))) fun more =>
  wFor1 (found1) more (fun more2 (knot : List Int) nx =>
  wJ1 (fun j1 =>
  ((knot).length ≤ 10000000) ∧ wIf (!inl false ((knot).map (fun other => hk pairs1 (other, place))))
  ((knot.length + ([place] : List Int).length ≤ 10000000) ∧ (more2.length < 10000000) ∧ bnd (more2 ++ [knot ++ ([place] : List Int)]) fun more4 =>
  j1 more4)
  (j1 more2))
  (fun (more3 : List (List Int)) => nx more3))
  (fun (more2 : List (List Int)) => (found1.length + more2.length ≤ 10000000) ∧ bnd (found1 ++ more2) fun found2 =>
  nx found2))
  (fun (found1 : List (List Int)) => Q found1))
theorem spec__law_knots {w : Web} {Q : List (List Int) → Prop} (h : knotsP w) (q : Q (knotsF w)) : w__law_knots w Q := by
  unfold w__law_knots
  have h0 := h.isw.n0
  have hn := h.n20
  have hl := web_len24 h.isw (by omega)
  have nd := sorted_nodup h.isw.srt
  rintro _ rfl
  refine wFor1_inv (fun pre M => M = pre.map fun t => (t, true)) rfl ?_ ?_
  · rintro _ rfl
    have e1 : ((w.2.map fun tie => (tie, true)).map (·.1)) = w.2 := by rw [List.map_map]; exact List.map_id _
    have hkk : ∀ p, hk (w.2.map fun t => (t, true)) p = inl p w.2 := fun p => by
      rw [Bool.eq_iff_iff, hk_keys, inl_iff, e1]
    rintro _ rfl
    refine ⟨by omega, ?_⟩
    refine wFor1_z h0 (fun p F => F = knotsTo w p.toNat) rfl ?_ ?_
    · rintro _ rfl; exact q
    · rintro p _ C p0 p1 rfl c
      have big := knots_big h p.toNat (by omega)
      have en : (p + 1).toNat = p.toNat + 1 := by omega
      have ep : ((p.toNat : Nat) : Int) = p := by omega
      rintro _ rfl
      refine wFor1_inv (fun pre F => F = (pre.filter fun k => k.all fun o => inl (o, p) w.2).map (· ++ [p])) rfl ?_ ?_
      · rintro _ rfl
        have fl := List.length_filter_le (fun k => k.all fun o => inl (o, p) w.2) (knotsTo w p.toNat)
        refine ⟨by rw [List.length_map]; omega, ?_⟩
        rintro _ rfl
        refine c _ ?_
        rw [en]
        show _ = knotsTo w p.toNat ++ ((knotsTo w p.toNat).filter fun k => k.all fun o => inl (o, ((p.toNat : Nat) : Int)) w.2).map (· ++ [((p.toNat : Nat) : Int)])
        rw [ep]
      · rintro pre k post _ C e rfl c
        have mk : k ∈ knotsTo w p.toNat := by rw [e]; simp
        have kl := ((mem_knots _ _).mp mk).len (by omega)
        have pl : pre.length ≤ 1048576 := by have := congrArg List.length e; simp at this; omega
        have fl : ((pre.filter fun k => k.all fun o => inl (o, p) w.2).map (· ++ [p])).length ≤ 1048576 := by
          rw [List.length_map]; exact Nat.le_trans (List.length_filter_le _ _) pl
        have ee : (!inl false (k.map fun other => hk (w.2.map fun t => (t, true)) (other, p))) = k.all fun o => inl (o, p) w.2 := by
          rw [Bool.eq_iff_iff]
          simp only [Bool.not_eq_true', inl_not, List.mem_map, not_exists, not_and, List.all_eq_true, hkk]
          exact ⟨fun z x mx => inl_iff.mpr (Classical.not_not.mp (z x mx)), fun z x mx n => n (inl_iff.mp (z x mx))⟩
        refine ⟨fun F => F = ((pre ++ [k]).filter fun k => k.all fun o => inl (o, p) w.2).map (· ++ [p]), ⟨by omega, fun hb => ?_, fun hb => ?_⟩, fun F hF => c F hF⟩
        · rw [ee] at hb
          refine ⟨by simp; omega, by omega, ?_⟩
          rintro _ rfl
          rw [List.filter_append, List.map_append, List.filter_cons, if_pos hb]; rfl
        · rw [ee] at hb
          rw [List.filter_append, List.map_append, List.filter_cons, if_neg (by rw [hb]; simp)]; simp
  · rintro pre x post _ C e rfl c
    have e1 : ((pre.map fun tie => (tie, true)).map (·.1)) = pre := by rw [List.map_map]; exact List.map_id _
    rw [e] at nd
    have nx : x ∉ pre := fun m => (List.nodup_append.mp nd).2.2 x m x (by simp) rfl
    have pl : pre.length ≤ 576 := by have := congrArg List.length e; simp at this; omega
    refine ⟨⟨by rw [e1]; exact (List.nodup_append.mp nd).1, by rw [List.length_map]; omega⟩, ?_⟩
    rintro _ rfl
    refine c _ ?_
    rw [putM_new (by rw [e1]; exact nx)]; simp
def Fw__law_knots : FS := fun ts R => ∃ (web_here : Int × (List (Int × Int))) (P : (List (List Int)) → Prop), ts = [(.fz ((eP D.int (eU (eP D.int D.int))) web_here))] ∧ w__law_knots web_here P ∧ ∀ (r : List (List Int)), P  r → R [] ((tLs (eU D.int) r))
def F__law_knots : FS := fun ts R => ∃ (web_here : Int × (List (Int × Int))), ts = [(.fz ((eP D.int (eU (eP D.int D.int))) web_here))] ∧ knotsP web_here ∧ R [] ((tLs (eU D.int) (knotsF web_here)))
def b__law_knots : DTS := (dSeq (dSet 1 dNewT)
    (dSeq (dFor (iSeqD (dBin ixD true (dVar 0) (dConst (.fz (.int 1))))) (gN 2) (dSeq (dStore true (dConst (.fz (.bl true))) (dVar 1) (dVar 2))
    (dSeq (dKill [2]) dNext)))
    (dSeq (dSet 3 (dLst (dAConsP (dTup dNil) dNil)))
    (dSeq (dFor (iRange1 (dAConsP (dBin ixD true (dVar 0) (dConst (.fz (.int 0)))) dNil)) (gN 4) (dSeq (dSet 5 (dLst dNil))
    (dSeq (dFrz 3) (dSeq (dFor (iSeqD (dVar 3)) (gN 6) (dSeq (dCut (dIf (dVal (dBin (inD true) false (dConst (.fz (.bl false))) (dLc (iSeqD (dVar 6)) (gN 7) dYes (dBin (inD false) true (dTup (dACons (dVar 7) (dACons (dVar 4) dNil))) (dVar 1)) [7]))) (dSeq (dExpr (dMeth "list" appendN false (dVar 5) (dACons (dBin addD false (dVar 6) (dTup (dACons (dVar 4) dNil))) dNil)))
    dNext) dNext))
    (dSeq (dKill [6]) dNext)))
    (dSeq (dSet 3 (dBin addD true (dVar 3) (dVar 5)))
    (dSeq (dKill [4, 5]) dNext))))))
    (dRet (dVar 3))))))
set_option maxHeartbeats 4000000 in
theorem sim__law_knots : ∀ ts R, ts.length = 1 → Fw__law_knots ts R → b__law_knots ⟨fun G => R (G.take 0) (.fz .non), retW 0 R⟩ (ts.map some ++ List.replicate ((["_law_web_here", "_law_pairs", "_law_pair", "_law_found", "_law_place", "_law_more", "_law_knot", "_law_other"] : List Str).length - 1) none) := by
  rintro ts R - ⟨web_here, P, rfl, h, hR⟩
  unfold w__law_knots at h
  unfold b__law_knots
  refine q_env (G2 := [some (.fz ((eP D.int (eU (eP D.int D.int))) web_here)), none, none, none, none, none, none, none]) rfl ?_
  refine p_setB (fun x => (.dt (x.map fun p => (kP p.1, D.bl p.2)))) (G' := fun pairs => [some (.fz ((eP D.int (eU (eP D.int D.int))) web_here)), some (.dt (pairs.map fun p => (kP p.1, D.bl p.2))), none, none, none, none, none, none]) h sp_newT (lt_l rfl) (fun _ => rfl) fun pairs h => ?_
  refine q_for1 (eP D.int D.int) (fun (pairs1 : List ((Int × Int) × Bool)) => [some (.fz ((eP D.int (eU (eP D.int D.int))) web_here)), some (.dt (pairs1.map fun p => (kP p.1, D.bl p.2))), none, none, none, none, none, none]) (si_seqU (sp_bin (sp_var_fz (i := 0) rfl) rd_fz sp_con rd_fz k_ix1) fz_fz) rfl h (fun pairs1 pair P C h hC => ?_) (fun pairs1 h => ?_)
  · refine (sg_name (G' := [some (.fz ((eP D.int (eU (eP D.int D.int))) web_here)), some (.dt (pairs1.map fun p => (kP p.1, D.bl p.2))), some (.fz ((eP D.int D.int) pair)), none, none, none, none, none]) (lt_l rfl) rfl) _ ?_
    obtain ⟨q1, h⟩ := h
    obtain ⟨pairs2, e_pairs2, h⟩ := h.get
    refine p_stoTP (eb := D.bl) (x := true) rfl sp_con fz_fz (sp_var_fz (i := 2) rfl) rd_fz q1 (G' := [some (.fz ((eP D.int (eU (eP D.int D.int))) web_here)), some (.dt (pairs2.map fun p => (kP p.1, D.bl p.2))), some (.fz ((eP D.int D.int) pair)), none, none, none, none, none]) (by subst e_pairs2; rfl) ?_
    refine p_kill (G' := [some (.fz ((eP D.int (eU (eP D.int D.int))) web_here)), some (.dt (pairs2.map fun p => (kP p.1, D.bl p.2))), none, none, none, none, none, none]) rfl ?_
    exact hC _ h
  refine p_setB (fun x => (tLs (eU D.int) x)) (G' := fun found => [some (.fz ((eP D.int (eU (eP D.int D.int))) web_here)), some (.dt (pairs1.map fun p => (kP p.1, D.bl p.2))), none, some (tLs (eU D.int) found), none, none, none, none]) h (sp_lst (sa_consP (sp_tup sa_nil rfl (Nat.le_of_ble_eq_true rfl)) fz_fz sa_nil) rfl (Nat.le_of_ble_eq_true rfl)) (lt_l rfl) (fun _ => rfl) fun found h => ?_
  obtain ⟨q2, h⟩ := h
  refine q_for1 D.int (fun (found1 : List (List Int)) => [some (.fz ((eP D.int (eU (eP D.int D.int))) web_here)), some (.dt (pairs1.map fun p => (kP p.1, D.bl p.2))), none, some (tLs (eU D.int) found1), none, none, none, none]) (si_range1 (sa_consP (sp_bin (sp_var_fz (i := 0) rfl) rd_fz sp_con rd_fz k_ix0) fz_fz sa_nil) q2) rfl h (fun found1 place P C h hC => ?_) (fun found1 h => ?_)
  · refine (sg_name (G' := [some (.fz ((eP D.int (eU (eP D.int D.int))) web_here)), some (.dt (pairs1.map fun p => (kP p.1, D.bl p.2))), none, some (tLs (eU D.int) found1), some (.fz (D.int place)), none, none, none]) (lt_l rfl) rfl) _ ?_
    refine p_setB (fun x => (tLs (eU D.int) x)) (G' := fun more => [some (.fz ((eP D.int (eU (eP D.int D.int))) web_here)), some (.dt (pairs1.map fun p => (kP p.1, D.bl p.2))), none, some (tLs (eU D.int) found1), some (.fz (D.int place)), some (tLs (eU D.int) more), none, none]) h (sp_lst sa_nil rfl (Nat.le_of_ble_eq_true rfl)) (lt_l rfl) (fun _ => rfl) fun more h => ?_
    refine p_frz (i := 3) (G' := [some (.fz ((eP D.int (eU (eP D.int D.int))) web_here)), some (.dt (pairs1.map fun p => (kP p.1, D.bl p.2))), none, some (.fz ((eL (eU D.int)) found1)), some (.fz (D.int place)), some (tLs (eU D.int) more), none, none]) rfl rfl rfl ?_
    refine q_for1 (eU D.int) (fun (more2 : List (List Int)) => [some (.fz ((eP D.int (eU (eP D.int D.int))) web_here)), some (.dt (pairs1.map fun p => (kP p.1, D.bl p.2))), none, some (.fz ((eL (eU D.int)) found1)), some (.fz (D.int place)), some (tLs (eU D.int) more2), none, none]) (si_seqL (sp_var_fz (i := 3) rfl) fz_fz) rfl h (fun more2 knot P C h hC => ?_) (fun more2 h => ?_)
    · refine (sg_name (G' := [some (.fz ((eP D.int (eU (eP D.int D.int))) web_here)), some (.dt (pairs1.map fun p => (kP p.1, D.bl p.2))), none, some (.fz ((eL (eU D.int)) found1)), some (.fz (D.int place)), some (tLs (eU D.int) more2), some (.fz ((eU D.int) knot)), none]) (lt_l rfl) rfl) _ ?_
      refine q_cut1 (fun (more3 : List (List Int)) => [some (.fz ((eP D.int (eU (eP D.int D.int))) web_here)), some (.dt (pairs1.map fun p => (kP p.1, D.bl p.2))), none, some (.fz ((eL (eU D.int)) found1)), some (.fz (D.int place)), some (tLs (eU D.int) more3), some (.fz ((eU D.int) knot)), none]) h (fun j1 h => ?_) (fun more3 h => ?_)
      · obtain ⟨q3, h⟩ := h
        refine p_if (st_val (sp_binF sp_con fz_fz (sp_lc0 D.int (fun other => hk pairs1 (other, place)) D.bl (fun other => [some (.fz ((eP D.int (eU (eP D.int D.int))) web_here)), some (.dt (pairs1.map fun p => (kP p.1, D.bl p.2))), none, some (.fz ((eL (eU D.int)) found1)), some (.fz (D.int place)), some (tLs (eU D.int) more2), some (.fz ((eU D.int) knot)), some (.fz (D.int other))]) (si_seqU (sp_var_fz (i := 6) rfl) fz_fz) q3 (fun other hx => (sg_name (G' := [some (.fz ((eP D.int (eU (eP D.int D.int))) web_here)), some (.dt (pairs1.map fun p => (kP p.1, D.bl p.2))), none, some (.fz ((eL (eU D.int)) found1)), some (.fz (D.int place)), some (tLs (eU D.int) more2), some (.fz ((eU D.int) knot)), some (.fz (D.int other))]) (lt_l rfl) rfl)) (fun other hx => ⟨_, (sp_bin (sp_tup (sa_cons (sp_var_fz (i := 7) rfl) fz_fz (sa_cons (sp_var_fz (i := 4) rfl) fz_fz sa_nil)) rfl (Nat.le_of_ble_eq_true rfl)) rd_fz (sp_var (i := 1) rfl trivial) (rd_pk rfl rfl) (k_inTP (p := (other, place)))), fz_fz⟩) (fun _ => rfl) rfl) rd_ls (k_ninL (a := false) (l := (knot).map (fun other => hk pairs1 (other, place))) ok_bl (Nat.le_of_ble_eq_true rfl))) rd_fz) (fun hb => ?_) (fun hb => ?_)
        · replace h := h.1 hb
          obtain ⟨q4, q5, h⟩ := h
          obtain ⟨more4, e_more4, h⟩ := h.get
          refine p_app (i := 5) (e := (eU D.int)) (x := knot ++ ([place] : List Int)) rfl (sa_cons (sp_binF (sp_var_fz (i := 6) rfl) fz_fz (sp_tup (sa_cons (sp_var_fz (i := 4) rfl) fz_fz sa_nil) rfl (Nat.le_of_ble_eq_true rfl)) rd_fz (k_catU (e := D.int) q4)) fz_fz sa_nil) q5 (G' := [some (.fz ((eP D.int (eU (eP D.int D.int))) web_here)), some (.dt (pairs1.map fun p => (kP p.1, D.bl p.2))), none, some (.fz ((eL (eU D.int)) found1)), some (.fz (D.int place)), some (tLs (eU D.int) more4), some (.fz ((eU D.int) knot)), none]) (by subst e_more4; rfl) ?_
          exact ⟨_, h, rfl⟩
        · replace h := h.2 hb
          exact ⟨_, h, rfl⟩
      refine p_kill (G' := [some (.fz ((eP D.int (eU (eP D.int D.int))) web_here)), some (.dt (pairs1.map fun p => (kP p.1, D.bl p.2))), none, some (.fz ((eL (eU D.int)) found1)), some (.fz (D.int place)), some (tLs (eU D.int) more3), none, none]) rfl ?_
      exact hC _ h
    obtain ⟨q6, h⟩ := h
    refine p_setB (fun x => (tLs (eU D.int) x)) (G' := fun found2 => [some (.fz ((eP D.int (eU (eP D.int D.int))) web_here)), some (.dt (pairs1.map fun p => (kP p.1, D.bl p.2))), none, some (tLs (eU D.int) found2), some (.fz (D.int place)), some (tLs (eU D.int) more2), none, none]) h (sp_bin (sp_var_fz (i := 3) rfl) rd_fz (sp_var (i := 5) rfl trivial) (rd_pk rfl rfl) (k_catL (e := (eU D.int)) q6)) (lt_l rfl) (fun _ => rfl) fun found2 h => ?_
    refine p_kill (G' := [some (.fz ((eP D.int (eU (eP D.int D.int))) web_here)), some (.dt (pairs1.map fun p => (kP p.1, D.bl p.2))), none, some (tLs (eU D.int) found2), none, none, none, none]) rfl ?_
    exact hC _ h
  exact p_ret (sp_var (i := 3) rfl trivial) ⟨Nat.le_of_ble_eq_true rfl, .inl (hR _ h)⟩
theorem law__law_knots : ∀ ts R, ts.length = 1 → F__law_knots ts R → b__law_knots ⟨fun G => R (G.take 0) (.fz .non), retW 0 R⟩ (ts.map some ++ List.replicate ((["_law_web_here", "_law_pairs", "_law_pair", "_law_found", "_law_place", "_law_more", "_law_knot", "_law_other"] : List Str).length - 1) none) := by
  rintro ts R hl ⟨web_here, rfl, hp, q⟩
  exact sim__law_knots _ R hl ⟨web_here, fun r => r = knotsF web_here, rfl, spec__law_knots hp rfl, fun r e => by subst e; exact q⟩
theorem ok__law_knots {f : Addr} {fd : FuncData} (Fd : C8.Def K mg "_law_knots" s__law_knots f fd) (bd : Binds K fd ["_law_web_here"] []) (T_range : mg "range" = none) : Fn P w K mg base 1 "_law_knots" 1 0 F__law_knots := by
  refine fn_mk (body := b__law_knots) Fd bd sc__law_knots rfl (by decide) (fun cdv A outer s H E hgd hr => ?_) law__law_knots
  have nd := sc__law_knots.nd
  have hu64 := hr.units
  have hu65 := hu65 hr
  have hu1 := hu1 hr
  have hu2 := hu2 hr
  have hu0 := hr.units0
  exact (dss_cons (ds_set (i := 1) nd rfl (.inr rfl) de_newT (by decide))
    (dss_cons (ds_for PassesOwn.never rfl (di_seq (de_ix hu1 (de_var (pv 0)) de_int (fun _ _ => rfl))) (dg_name (i := 2) (pg_name (i := 2) nd rfl (.inl rfl)) (fun _ _ => take_set (by decide))) (dss_cons (ds_store hu1 de_bl (de_var (pv 1)) (de_var (pv 2)))
    (dss_kill [2] dss_nil)))
    (dss_cons (ds_set (i := 3) nd rfl (.inl rfl) (de_lst (da_consP (de_tup da_nil) da_nil)) (by decide))
    (dss_cons (ds_for PassesOwn.never rfl (di_range1 (by rfl) T_range (da_consP (de_ix hu1 (de_var (pv 0)) de_int (fun _ _ => rfl)) da_nil)) (dg_name (i := 4) (pg_name (i := 4) nd rfl (.inr rfl)) (fun _ _ => take_set (by decide))) (dss_cons (ds_set (i := 5) nd rfl (.inl rfl) (de_lst da_nil) (by decide))
    (dss_frz 3 (dss_cons (ds_for PassesOwn.never rfl (di_seq (de_var (pv 3))) (dg_name (i := 6) (pg_name (i := 6) nd rfl (.inl rfl)) (fun _ _ => take_set (by decide))) (dss_cons (ds_cut (ds_if (dt_cmp (notin_ok hu65) rfl de_bl (de_lc (own := [("_law_other", 7)]) rfl nd (di_seq (de_var (pv 6))) (blkOk_by (N := ["_law_web_here", "_law_pairs", "_law_pair", "_law_found", "_law_place", "_law_more", "_law_knot", "_law_other"]) (sc := C8.fnScope s__law_knots) (by decide +kernel)) (fun _ _ _ _ _ => (dg_name (i := 7) (pg_name (i := 7) nd rfl (by first | exact .inl rfl | exact .inr rfl)) (fun σ x => wipe_set x (by decide)))) (fun _ _ _ _ _ => dts_nil) (fun _ _ _ _ _ => (de_cmp (in_ok hu65) rfl (de_tup (da_cons (de_var (pv 7)) (da_cons (de_var (pv 4)) da_nil))) (de_var (pv 1)))))) (dss_cons (ds_expr (de_meth (by decide) PySem.F.plainAttrs_list PySem.F.slot_list_append PySem.F.type_list_append append_ok (de_var (pv 5)) (da_cons (de_bin add_ok (de_var (pv 6)) (de_tup (da_cons (de_var (pv 4)) da_nil))) da_nil)))
    dss_nil) dss_nil))
    (dss_kill [6] dss_nil)))
    (dss_cons (ds_set (i := 3) nd rfl (.inl rfl) (de_bin add_ok (de_var (pv 3)) (de_var (pv 5))) (by decide))
    (dss_kill [4, 5] dss_nil))))))
    (dss_one (ds_ret (de_var (pv 3))))))))
abbrev s__law_fraction_is : Stmt := topS 26
theorem sc__law_fraction_is : FnScope ["_law_one", "_law_part_of", "_law_a", "_law_b"] ["_law_one"] (C8.fnScope s__law_fraction_is) := C8.fnScope_by (by decide +kernel)
def w__law_fraction_is (one : Int × Int) (Q : Bool → Prop) : Prop :=
  wIf ((!true) || (!decide ((2 : Int) = (2 : Int))))
  (Q false)
  (wFor0 ([one.1, one.2]) (fun (part_of : Int) nx =>
  wIf ((!true) || false)
  (Q false)
  (nx))
  (bnd ((if one.1 < 0 then -one.1 else one.1)) fun a =>
  wWhile2 a one.2 (fun a1 b nx ex =>
  wIf (!decide (b = (0 : Int)))
  ((0 < b) ∧ bnd (a1 % b) fun b1 =>
  nx b b1)
  (ex a1 b))
  (fun (a1 : Int) (b : Int) => Q ((decide ((0 : Int) < one.2)) && (decide (a1 = (1 : Int)))))))
theorem spec__law_fraction_is {one : Int × Int} (h : fracIsP one) {Q : Bool → Prop} (q : Q (fracIsF one)) : w__law_fraction_is one Q := by
  obtain ⟨x, rfl⟩ := h
  have dp := qF_pos x
  unfold w__law_fraction_is
  refine ⟨fun hb => by simp at hb, fun _ => ?_⟩
  refine wFor0_inv (fun _ => True) trivial (fun _ => ?_) fun pre z post C e _ c => ⟨fun hb => by simp at hb, fun _ => c trivial⟩
  rintro _ rfl
  have ea : (if (qF x).1 < 0 then -(qF x).1 else (qF x).1) = ((x.num.natAbs : Nat) : Int) := by show (if x.num < 0 then -x.num else x.num) = _; split <;> omega
  rw [ea]
  refine ⟨fun n a b => n = b.toNat ∧ 0 ≤ a ∧ 0 ≤ b ∧ Nat.gcd a.toNat b.toNat = 1, ⟨_, rfl, by omega, by omega, ?_⟩, ?_⟩
  · have := x.reduced
    show Nat.gcd ((x.num.natAbs : Nat) : Int).toNat ((x.den : Nat) : Int).toNat = 1
    exact this
  rintro n a b ⟨rfl, ha, hb, hg⟩
  obtain ⟨a, rfl⟩ := Int.eq_ofNat_of_zero_le ha
  obtain ⟨b, rfl⟩ := Int.eq_ofNat_of_zero_le hb
  have hg : Nat.gcd a b = 1 := hg
  refine ⟨fun hc => ?_, fun hc => ?_⟩
  · have : ¬ ((b : Int) = 0) := by simpa using hc
    refine ⟨by omega, ?_⟩
    rintro _ rfl
    refine ⟨_, ?_, rfl, by omega, Int.emod_nonneg _ this, ?_⟩
    · have := Int.emod_lt_of_pos (a : Int) (show 0 < (b : Int) by omega)
      have := Int.emod_nonneg (a : Int) (show (b : Int) ≠ 0 by omega)
      omega
    · rw [← Int.natCast_emod]
      show Nat.gcd b (a % b) = 1
      rw [Nat.gcd_comm, ← Nat.gcd_rec, Nat.gcd_comm]; exact hg
  · have b0 : (b : Int) = 0 := by simpa using hc
    have b0 : b = 0 := by omega
    subst b0
    rw [Nat.gcd_zero_right] at hg
    subst hg
    have e : ((decide ((0 : Int) < (qF x).2)) && (decide (((1 : Nat) : Int) = (1 : Int)))) = true := by simp [dp]
    show Q ((decide ((0 : Int) < (qF x).2)) && (decide (((1 : Nat) : Int) = (1 : Int))))
    rw [e]; exact q
def Fw__law_fraction_is : FS := fun ts R => ∃ (one : Int × Int) (P : Bool → Prop), ts = [(.fz (eF one))] ∧ w__law_fraction_is one P ∧ ∀ (r : Bool), P  r → R [] ((.fz (D.bl r)))
def F__law_fraction_is : FS := fun ts R => ∃ (one : Int × Int), ts = [(.fz (eF one))] ∧ fracIsP one ∧ R [] ((.fz (D.bl (fracIsF one))))
def b__law_fraction_is : DTS := (dSeq (dIf (dOr (dNot (dVal (dCB1 (fun y R => isinstD [y, .opq (.ty "tuple")] R) (dVar 0)))) (dVal (dBin neD true (dCB1 (fun y R => lenD [y] R) (dVar 0)) (dConst (.fz (.int 2)))))) (dRet (dConst (.fz (.bl false)))) dNext)
    (dSeq (dFor (iSeqD (dVar 0)) (gN 1) (dSeq (dIf (dOr (dNot (dVal (dCB1 (fun y R => isinstD [y, .opq (.ty "int")] R) (dVar 1)))) (dVal (dCB1 (fun y R => isinstD [y, .opq (.ty "bool")] R) (dVar 1)))) (dRet (dConst (.fz (.bl false)))) dNext)
    (dSeq (dKill [1]) dNext)))
    (dSeq (dPar 2 3 (dAConsP (dCB1 (fun y R => absD [y] R) (dBin ixD true (dVar 0) (dConst (.fz (.int 0))))) (dAConsP (dBin ixD true (dVar 0) (dConst (.fz (.int 1)))) dNil)))
    (dSeq (dWhile (dVal (dBin neD true (dVar 3) (dConst (.fz (.int 0))))) (dSeq (dPar 2 3 (dACons (dVar 3) (dAConsP (dBin modD true (dVar 2) (dVar 3)) dNil)))
    dNext))
    (dRet (dAndV (dBin (cmpI fun i j => decide (j < i)) true (dBin ixD true (dVar 0) (dConst (.fz (.int 1)))) (dConst (.fz (.int 0)))) (dBin eqD true (dVar 2) (dConst (.fz (.int 1))))))))))
set_option maxHeartbeats 4000000 in
theorem sim__law_fraction_is : ∀ ts R, ts.length = 1 → Fw__law_fraction_is ts R → b__law_fraction_is ⟨fun G => R (G.take 0) (.fz .non), retW 0 R⟩ (ts.map some ++ List.replicate ((["_law_one", "_law_part_of", "_law_a", "_law_b"] : List Str).length - 1) none) := by
  rintro ts R - ⟨one, P, rfl, h, hR⟩
  unfold w__law_fraction_is at h
  unfold b__law_fraction_is
  refine q_env (G2 := [some (.fz (eF one)), none, none, none]) rfl ?_
  refine q_seq ?_
  refine p_if (st_or (st_not (st_val (sp_cb1 (sp_var_fz (i := 0) rfl) rd_fz (k_isn (d := eF one) isi_tuple_tuple)) rd_fz)) (fun hb => (st_val (sp_bin (sp_cb1 (sp_var_fz (i := 0) rfl) rd_fz (k_lenF)) rd_fz sp_con rd_fz (k_ne (a := (2 : Int)) (b := (2 : Int)) ok_int (Nat.le_of_ble_eq_true rfl))) rd_fz))) (fun hb => ?_) (fun hb => ?_)
  · replace h := h.1 hb
    exact p_ret sp_con (hR _ h)
  · replace h := h.2 hb
    refine q_nextS ?_
    refine q_for0 D.int ([some (.fz (eF one)), none, none, none]) (si_seqFR (p := one) (sp_var_fz (i := 0) rfl) fz_fz) rfl h (fun part_of P C h hC => ?_) (fun h => ?_)
    · refine (sg_name (G' := [some (.fz (eF one)), some (.fz (D.int part_of)), none, none]) (lt_l rfl) rfl) _ ?_
      refine q_seq ?_
      refine p_if (st_or (st_not (st_val (sp_cb1 (sp_var_fz (i := 1) rfl) rd_fz (k_isn (d := D.int part_of) isi_int_int)) rd_fz)) (fun hb => (st_val (sp_cb1 (sp_var_fz (i := 1) rfl) rd_fz (k_isn (d := D.int part_of) isi_int_bool)) rd_fz))) (fun hb => ?_) (fun hb => ?_)
      · replace h := h.1 hb
        exact p_ret sp_con (hR _ h)
      · replace h := h.2 hb
        refine q_nextS ?_
        refine p_kill (G' := [some (.fz (eF one)), none, none, none]) rfl ?_
        exact hC h
    obtain ⟨a, e_a, h⟩ := h.get
    refine p_par (d1 := D.int a) (d2 := D.int one.2) (G' := [some (.fz (eF one)), none, some (.fz (D.int a)), some (.fz (D.int one.2))]) (by subst e_a; exact (sa_consP (sp_cb1 (sp_bin (sp_var_fz (i := 0) rfl) rd_fz sp_con rd_fz k_ixF0) rd_fz k_abs) fz_fz (sa_consP (sp_bin (sp_var_fz (i := 0) rfl) rd_fz sp_con rd_fz k_ixF1) fz_fz sa_nil))) (lt_l rfl) (lt_l rfl) rfl ?_
    refine q_while2 (fun (a1 : Int) (b : Int) => [some (.fz (eF one)), none, some (.fz (D.int a1)), some (.fz (D.int b))]) rfl h (fun a1 b P X C D_ h hC hD => ?_) (fun a1 b h => ?_)
    · refine (st_val (sp_bin (sp_var_fz (i := 3) rfl) rd_fz sp_con rd_fz (k_ne (a := b) (b := (0 : Int)) ok_int (Nat.le_of_ble_eq_true rfl))) rd_fz) _ ?_
      refine q_ite (fun hb => ?_) (fun hb => hD _ _ (h.2 hb))
      replace h := h.1 hb
      obtain ⟨q1, h⟩ := h
      obtain ⟨b1, e_b1, h⟩ := h.get
      refine p_par (d1 := D.int b) (d2 := D.int b1) (G' := [some (.fz (eF one)), none, some (.fz (D.int b)), some (.fz (D.int b1))]) (by subst e_b1; exact (sa_cons (sp_var_fz (i := 3) rfl) fz_fz (sa_consP (sp_bin (sp_var_fz (i := 2) rfl) rd_fz (sp_var_fz (i := 3) rfl) rd_fz (k_mod q1)) fz_fz sa_nil))) (lt_l rfl) (lt_l rfl) rfl ?_
      exact hC _ _ h
    exact p_ret (sp_and (sp_bin (sp_bin (sp_var_fz (i := 0) rfl) rd_fz sp_con rd_fz k_ixF1) rd_fz sp_con rd_fz k_gt) rd_fz (fun hb => (sp_bin (sp_var_fz (i := 2) rfl) rd_fz sp_con rd_fz (k_eq (a := a1) (b := (1 : Int)) ok_int (Nat.le_of_ble_eq_true rfl))))) (hR _ h)
theorem law__law_fraction_is : ∀ ts R, ts.length = 1 → F__law_fraction_is ts R → b__law_fraction_is ⟨fun G => R (G.take 0) (.fz .non), retW 0 R⟩ (ts.map some ++ List.replicate ((["_law_one", "_law_part_of", "_law_a", "_law_b"] : List Str).length - 1) none) := by
  rintro ts R hl ⟨one, rfl, hp, q⟩
  exact sim__law_fraction_is _ R hl ⟨one, fun r => r = fracIsF one, rfl, spec__law_fraction_is hp rfl, fun r e => by subst e; exact q⟩
theorem ok__law_fraction_is {f : Addr} {fd : FuncData} (Fd : C8.Def K mg "_law_fraction_is" s__law_fraction_is f fd) (bd : Binds K fd ["_law_one"] []) (T_abs : mg "abs" = none) (T_bool : mg "bool" = none) (T_int : mg "int" = none) (T_isinstance : mg "isinstance" = none) (T_len : mg "len" = none) (T_tuple : mg "tuple" = none) : Fn P w K mg base 1 "_law_fraction_is" 1 0 F__law_fraction_is := by
  refine fn_mk (body := b__law_fraction_is) Fd bd sc__law_fraction_is rfl (by decide) (fun cdv A outer s H E hgd hr => ?_) law__law_fraction_is
  have nd := sc__law_fraction_is.nd
  have hu64 := hr.units
  have hu65 := hu65 hr
  have hu1 := hu1 hr
  have hu2 := hu2 hr
  have hu0 := hr.units0
  exact (dss_cons (ds_if (DW.dt (dw_or (dt_not (dt_val (de_cb1c isinst_ok (by rfl) T_isinstance (by decide +kernel) (de_var (pv 0)) (pe_bltn (v := .ty "tuple") (by rfl) T_tuple (by decide +kernel) rfl) (fun _ => .opq)))) (dw_or1 (dt_cmp (ne_ok hu64) (nomark _) (de_cb1 len_ok (by rfl) T_len (by decide +kernel) (de_var (pv 0))) de_int)))) (dss_one (ds_ret de_bl)) dss_nil)
    (dss_cons (ds_for PassesOwn.never rfl (di_seq (de_var (pv 0))) (dg_name (i := 1) (pg_name (i := 1) nd rfl (.inl rfl)) (fun _ _ => take_set (by decide))) (dss_cons (ds_if (DW.dt (dw_or (dt_not (dt_val (de_cb1c isinst_ok (by rfl) T_isinstance (by decide +kernel) (de_var (pv 1)) (pe_bltn (v := .ty "int") (by rfl) T_int (by decide +kernel) rfl) (fun _ => .opq)))) (dw_or1 (dt_val (de_cb1c isinst_ok (by rfl) T_isinstance (by decide +kernel) (de_var (pv 1)) (pe_bltn (v := .ty "bool") (by rfl) T_bool (by decide +kernel) rfl) (fun _ => .opq)))))) (dss_one (ds_ret de_bl)) dss_nil)
    (dss_kill [1] dss_nil)))
    (dss_cons (ds_par (i := 2) (j := 3) rfl nd rfl rfl (by decide) rfl rfl (by decide) (by decide) (da_consP (de_cb1 abs_ok (by rfl) T_abs (by decide +kernel) (de_ix hu1 (de_var (pv 0)) de_int (fun _ _ => rfl))) (da_consP (de_ix hu1 (de_var (pv 0)) de_int (fun _ _ => rfl)) da_nil)))
    (dss_cons (ds_while PassesOwn.never (dt_cmp (ne_ok hu64) (nomark _) (de_var (pv 3)) de_int) (dss_cons (ds_par (i := 2) (j := 3) rfl nd rfl rfl (by decide) rfl rfl (by decide) (by decide) (da_cons (de_var (pv 3)) (da_consP (de_bin mod_ok (de_var (pv 2)) (de_var (pv 3))) da_nil)))
    dss_nil))
    (dss_one (ds_ret (de_and (de_cmp gt_ok (nomark _) (de_ix hu1 (de_var (pv 0)) de_int (fun _ _ => rfl)) de_int) (de_one (de_cmp (eq_ok hu64) (nomark _) (de_var (pv 2)) de_int)))))))))
abbrev s__law_total : Stmt := topS 27
theorem sc__law_total : FnScope ["_law_some", "_law_top", "_law_bottom", "_law_a", "_law_b"] ["_law_some"] (C8.fnScope s__law_total) := C8.fnScope_by (by decide +kernel)
def w__law_total (some_v : Bool × List (Int × Int)) (Q : (Int × Int) → Prop) : Prop :=
  wFor2 (some_v.2) (0 : Int) (1 : Int) (fun top bottom (p : Int × Int) nx =>
  (mulOk top p.2) ∧ (mulOk p.1 bottom) ∧ (mulOk bottom p.2) ∧ bnd ((top * p.2) + (p.1 * bottom)) fun top1 =>
  bnd (bottom * p.2) fun bottom1 =>
  nx top1 bottom1)
  (fun (top : Int) (bottom : Int) => Q (top, bottom))
theorem spec__law_total {some_v : Bool × List (Int × Int)} (h : sumP some_v) {Q : Int × Int → Prop} (q : Q (sumF some_v)) : w__law_total some_v Q := by
  obtain ⟨b, l⟩ := some_v
  have h : bitsL l ≤ 4500 := h
  unfold w__law_total
  refine wFor2_inv (fun pre top bottom => (top, bottom) = pre.foldl sumStep (0, 1)) rfl ?_ ?_
  · intro top bottom e
    rw [e]; exact q
  · rintro pre x post top bottom C e I c
    have e : l = pre ++ x :: post := e
    have s := sum_lt pre
    rw [← I] at s
    have bx := bl_lt x
    have tt := bl_two x
    have a := bitsL_append pre (x :: post)
    rw [← e] at a
    have a2 : bitsL (x :: post) = bl x + bitsL post := rfl
    have ok : ∀ {i j : Int}, i.natAbs < 2 ^ bitsL pre → j.natAbs < 2 ^ (bl x - 1) → mulOk i j := fun hi hj => Sx.mulOk_sm hi hj (by omega) (by omega)
    have ok2 : ∀ {i j : Int}, j.natAbs < 2 ^ bitsL pre → i.natAbs < 2 ^ (bl x - 1) → mulOk i j := fun hi hj => Sx.mulOk_sm hj hi (by omega) (by omega)
    refine ⟨ok s.1 bx.2, ok2 s.2 bx.1, ok s.2 bx.2, ?_⟩
    rintro _ rfl _ rfl
    refine c _ _ ?_
    rw [List.foldl_append, ← I]; rfl
def Fw__law_total : FS := fun ts R => ∃ (some_v : Bool × List (Int × Int)) (P : (Int × Int) → Prop), ts = [(.fz ((eLU eF) some_v))] ∧ w__law_total some_v P ∧ ∀ (r : Int × Int), P  r → R [] ((.fz ((eP D.int D.int) r)))
def F__law_total : FS := fun ts R => ∃ (some_v : Bool × List (Int × Int)), ts = [(.fz ((eLU eF) some_v))] ∧ sumP some_v ∧ R [] ((.fz ((eP D.int D.int) (sumF some_v))))
def b__law_total : DTS := (dSeq (dAsg (dTup (dAConsP (dConst (.fz (.int 0))) (dAConsP (dConst (.fz (.int 1))) dNil))) (gT 2 (gsCons (gN 1) (gsCons (gN 2) gsNil))))
    (dSeq (dFor (iSeqD (dVar 0)) (gT 2 (gsCons (gN 3) (gsCons (gN 4) gsNil))) (dSeq (dPar 1 2 (dAConsP (dBin addD true (dBin mulD true (dVar 1) (dVar 4)) (dBin mulD true (dVar 3) (dVar 2))) (dAConsP (dBin mulD true (dVar 2) (dVar 4)) dNil)))
    (dSeq (dKill [3, 4]) dNext)))
    (dRet (dTup (dACons (dVar 1) (dACons (dVar 2) dNil))))))
set_option maxHeartbeats 4000000 in
theorem sim__law_total : ∀ ts R, ts.length = 1 → Fw__law_total ts R → b__law_total ⟨fun G => R (G.take 0) (.fz .non), retW 0 R⟩ (ts.map some ++ List.replicate ((["_law_some", "_law_top", "_law_bottom", "_law_a", "_law_b"] : List Str).length - 1) none) := by
  rintro ts R - ⟨some_v, P, rfl, h, hR⟩
  unfold w__law_total at h
  unfold b__law_total
  refine q_env (G2 := [some (.fz ((eLU eF) some_v)), none, none, none, none]) rfl ?_
  refine p_asg (sp_tup (sa_consP sp_con fz_fz (sa_consP sp_con fz_fz sa_nil)) rfl (Nat.le_of_ble_eq_true rfl)) fz_fz (sg_pair (G' := [some (.fz ((eLU eF) some_v)), some (.fz (D.int (0 : Int))), some (.fz (D.int (1 : Int))), none, none]) (lt_l rfl) (lt_l rfl) rfl) ?_
  refine q_for2 eF (fun (top : Int) (bottom : Int) => [some (.fz ((eLU eF) some_v)), some (.fz (D.int top)), some (.fz (D.int bottom)), none, none]) (si_seqLU (sp_var_fz (i := 0) rfl) fz_fz) rfl h (fun top bottom p P C h hC => ?_) (fun top bottom h => ?_)
  · refine (sg_pairF (G' := [some (.fz ((eLU eF) some_v)), some (.fz (D.int top)), some (.fz (D.int bottom)), some (.fz (D.int p.1)), some (.fz (D.int p.2))]) (lt_l rfl) (lt_l rfl) rfl) _ ?_
    obtain ⟨q1, q2, q3, h⟩ := h
    obtain ⟨top1, e_top1, h⟩ := h.get
    obtain ⟨bottom1, e_bottom1, h⟩ := h.get
    refine p_par (d1 := D.int top1) (d2 := D.int bottom1) (G' := [some (.fz ((eLU eF) some_v)), some (.fz (D.int top1)), some (.fz (D.int bottom1)), some (.fz (D.int p.1)), some (.fz (D.int p.2))]) (by subst e_top1; subst e_bottom1; exact (sa_consP (sp_bin (sp_bin (sp_var_fz (i := 1) rfl) rd_fz (sp_var_fz (i := 4) rfl) rd_fz (k_mul q1)) rd_fz (sp_bin (sp_var_fz (i := 3) rfl) rd_fz (sp_var_fz (i := 2) rfl) rd_fz (k_mul q2)) rd_fz k_add) fz_fz (sa_consP (sp_bin (sp_var_fz (i := 2) rfl) rd_fz (sp_var_fz (i := 4) rfl) rd_fz (k_mul q3)) fz_fz sa_nil))) (lt_l rfl) (lt_l rfl) rfl ?_
    refine p_kill (G' := [some (.fz ((eLU eF) some_v)), some (.fz (D.int top1)), some (.fz (D.int bottom1)), none, none]) rfl ?_
    exact hC _ _ h
  exact p_ret (sp_tup (sa_cons (sp_var_fz (i := 1) rfl) fz_fz (sa_cons (sp_var_fz (i := 2) rfl) fz_fz sa_nil)) rfl (Nat.le_of_ble_eq_true rfl)) (hR _ h)
theorem law__law_total : ∀ ts R, ts.length = 1 → F__law_total ts R → b__law_total ⟨fun G => R (G.take 0) (.fz .non), retW 0 R⟩ (ts.map some ++ List.replicate ((["_law_some", "_law_top", "_law_bottom", "_law_a", "_law_b"] : List Str).length - 1) none) := by
  rintro ts R hl ⟨some_v, rfl, hp, q⟩
  exact sim__law_total _ R hl ⟨some_v, fun r => r = sumF some_v, rfl, spec__law_total hp rfl, fun r e => by subst e; exact q⟩
theorem ok__law_total {f : Addr} {fd : FuncData} (Fd : C8.Def K mg "_law_total" s__law_total f fd) (bd : Binds K fd ["_law_some"] []) : Fn P w K mg base 1 "_law_total" 1 0 F__law_total := by
  refine fn_mk (body := b__law_total) Fd bd sc__law_total rfl (by decide) (fun cdv A outer s H E hgd hr => ?_) law__law_total
  have nd := sc__law_total.nd
  have hu64 := hr.units
  have hu65 := hu65 hr
  have hu1 := hu1 hr
  have hu2 := hu2 hr
  have hu0 := hr.units0
  exact (dss_cons (ds_asg (de_tup (da_consP de_int (da_consP de_int da_nil))) (dg_tup rfl (dgs_cons (dg_name (i := 1) (pg_name (i := 1) nd rfl (.inl rfl)) (fun _ _ => take_set (by decide))) (dgs_cons (dg_name (i := 2) (pg_name (i := 2) nd rfl (.inl rfl)) (fun _ _ => take_set (by decide))) dgs_nil))))
    (dss_cons (ds_for PassesOwn.never rfl (di_seq (de_var (pv 0))) (dg_tup rfl (dgs_cons (dg_name (i := 3) (pg_name (i := 3) nd rfl (.inl rfl)) (fun _ _ => take_set (by decide))) (dgs_cons (dg_name (i := 4) (pg_name (i := 4) nd rfl (.inl rfl)) (fun _ _ => take_set (by decide))) dgs_nil))) (dss_cons (ds_par (i := 1) (j := 2) rfl nd rfl rfl (by decide) rfl rfl (by decide) (by decide) (da_consP (de_bin add_ok (de_bin mul_ok (de_var (pv 1)) (de_var (pv 4))) (de_bin mul_ok (de_var (pv 3)) (de_var (pv 2)))) (da_consP (de_bin mul_ok (de_var (pv 2)) (de_var (pv 4))) da_nil)))
    (dss_kill [3, 4] dss_nil)))
    (dss_one (ds_ret (de_tup (da_cons (de_var (pv 1)) (da_cons (de_var (pv 2)) da_nil)))))))
abbrev s__law_is_apart : Stmt := topS 28
theorem sc__law_is_apart : FnScope ["_law_told", "_law_places", "_law_one", "_law_k", "_law_other"] ["_law_told", "_law_places"] (C8.fnScope s__law_is_apart) := C8.fnScope_by (by decide +kernel)
def w__law_is_apart (told : Int × (List (Int × Int))) (places : List Int) (Q : Bool → Prop) : Prop :=
  wIf ((!true) || (decide (places = ([] : List Int))))
  (Q false)
  (wFor0 (places) (fun (one : Int) nx =>
  wIf ((!true) || (false || (!(decide ((0 : Int) ≤ one) && decide (one < told.1)))))
  (Q false)
  (nx))
  ((-(2 ^ 62) ≤ (1 : Int) ∧ (1 : Int) < 2 ^ 62 ∧ -(2 ^ 62) ≤ (places.length : Int) ∧ (places.length : Int) < 2 ^ 62) ∧ wFor0 (irange (1 : Int) (places.length : Int)) (fun (k : Int) nx =>
  (InR places (k - (1 : Int))) ∧ (InR places k) ∧ wIf (decide (gi places k ≤ gi places (k - (1 : Int))))
  (Q false)
  (wFor0 (cutL places none (some k)) (fun (other : Int) nx =>
  (InR places k) ∧ wIf (tie told other (gi places k))
  (Q false)
  (nx))
  (nx)))
  (Q true)))
theorem spec__law_is_apart {told : Web} {places : List Int} (h : apartP told places) {Q : Bool → Prop} (q : Q (apartF told places)) : w__law_is_apart told places Q := by
  have hw := h.isw
  have n24 := h.n24
  have hl := h.kn.len hw.n0
  have hl : (places.length : Int) ≤ told.1 := hl
  unfold w__law_is_apart
  refine ⟨fun hb => ?_, fun _ => ?_⟩
  · have : places = [] := by simpa using hb
    exact absurd this h.ne
  refine wFor0_inv (fun _ => True) trivial (fun _ => ?_) fun pre x post C e _ c => ⟨fun hb => ?_, fun _ => c trivial⟩
  · refine ⟨by omega, ?_⟩
    refine wFor0_inv (fun _ => True) trivial (fun _ => q) fun pre k post C e _ c => ?_
    have mk : k ∈ irange 1 (places.length : Int) := by rw [e]; simp
    obtain ⟨k1, k2⟩ := mem_irange.mp mk
    refine ⟨inR (by omega) (by omega), inR (by omega) (by omega), fun hb => ?_, fun _ => ?_⟩
    · have := gi_up h.kn.up (i := k - 1) (j := k) (by omega) (by omega) k2
      have := of_decide_eq_true hb
      omega
    · rw [cut_lo' (by omega) (by omega)]
      refine wFor0_inv (fun _ => True) trivial (fun _ => c trivial) fun pre2 x post2 C2 e2 _ c2 => ?_
      refine ⟨inR (by omega) (by omega), fun hb => ?_, fun _ => c2 trivial⟩
      have t : tie (turnedF told) x (gi places k) = true := by
        have h1 := h.kn.tied
        have e3 : places = places.take k.toNat ++ places.drop k.toNat := (List.take_append_drop _ _).symm
        rw [e3] at h1
        refine (List.pairwise_append.mp h1).2.2 x (by rw [e2]; simp) _ ?_
        rw [gi_int (by omega) k2, List.drop_eq_getElem_cons (show k.toNat < places.length by omega)]
        exact List.mem_cons_self
      have mx : x ∈ places := List.mem_of_mem_take (by rw [e2]; simp : x ∈ places.take k.toNat)
      have mg : gi places k ∈ places := gi_mem (by omega) k2
      have r1 := h.kn.rng x mx
      have r2 := h.kn.rng _ mg
      have ne : x ≠ gi places k := fun z => by
        obtain ⟨i, hi, ei⟩ := List.getElem_of_mem (show x ∈ places.take k.toNat by rw [e2]; simp)
        rw [List.getElem_take] at ei
        have hi2 : i < k.toNat := by rw [List.length_take] at hi; omega
        have := gi_up h.kn.up (i := (i : Int)) (j := k) (by omega) (by omega) k2
        rw [gi_nat (by omega), ei] at this
        omega
      rw [turned_tie hw r1.1 r2.1 r1.2 r2.2 ne, hb] at t
      cases t
  · have r := h.kn.rng x (by rw [e]; simp)
    simp at hb
    omega
def Fw__law_is_apart : FS := fun ts R => ∃ (told : Int × (List (Int × Int))) (places : List Int) (P : Bool → Prop), ts = [(.fz ((eP D.int (eU (eP D.int D.int))) told)), (.fz ((eU D.int) places))] ∧ w__law_is_apart told places P ∧ ∀ (r : Bool), P  r → R [] ((.fz (D.bl r)))
def F__law_is_apart : FS := fun ts R => ∃ (told : Int × (List (Int × Int))) (places : List Int), ts = [(.fz ((eP D.int (eU (eP D.int D.int))) told)), (.fz ((eU D.int) places))] ∧ apartP told places ∧ R [] ((.fz (D.bl (apartF told places))))
def b__law_is_apart : DTS := (dSeq (dIf (dOr (dNot (dVal (dCB1 (fun y R => isinstD [y, .opq (.ty "tuple")] R) (dVar 1)))) (dVal (dBin eqD true (dVar 1) (dTup dNil)))) (dRet (dConst (.fz (.bl false)))) dNext)
    (dSeq (dFor (iSeqD (dVar 1)) (gN 2) (dSeq (dIf (dOr (dNot (dVal (dCB1 (fun y R => isinstD [y, .opq (.ty "int")] R) (dVar 2)))) (dOr (dVal (dCB1 (fun y R => isinstD [y, .opq (.ty "bool")] R) (dVar 2))) (dNot (dVal (dChain (fun i j => decide (i ≤ j)) (fun i j => decide (i < j)) (dConst (.fz (.int 0))) (dVar 2) (dBin ixD true (dVar 0) (dConst (.fz (.int 0))))))))) (dRet (dConst (.fz (.bl false)))) dNext)
    (dSeq (dKill [2]) dNext)))
    (dSeq (dFor (iRange2 (dAConsP (dConst (.fz (.int 1))) (dAConsP (dCB1 (fun y R => lenD [y] R) (dVar 1)) dNil))) (gN 3) (dSeq (dIf (dVal (dBin (cmpI fun i j => decide (j ≤ i)) true (dBin ixD true (dVar 1) (dBin subD true (dVar 3) (dConst (.fz (.int 1))))) (dBin ixD true (dVar 1) (dVar 3)))) (dRet (dConst (.fz (.bl false)))) dNext)
    (dSeq (dFor (iSeqD (dSlice (dVar 1) oNone (oSome (dVar 3)))) (gN 4) (dSeq (dIf (dVal (dCall 3 F__law_tied (dACons (dVar 0) (dACons (dVar 4) (dAConsP (dBin ixD true (dVar 1) (dVar 3)) dNil))))) (dRet (dConst (.fz (.bl false)))) dNext)
    (dSeq (dKill [4]) dNext)))
    (dSeq (dKill [3]) dNext))))
    (dRet (dConst (.fz (.bl true)))))))
set_option maxHeartbeats 4000000 in
theorem sim__law_is_apart : ∀ ts R, ts.length = 2 → Fw__law_is_apart ts R → b__law_is_apart ⟨fun G => R (G.take 0) (.fz .non), retW 0 R⟩ (ts.map some ++ List.replicate ((["_law_told", "_law_places", "_law_one", "_law_k", "_law_other"] : List Str).length - 2) none) := by
  rintro ts R - ⟨told, places, P, rfl, h, hR⟩
  unfold w__law_is_apart at h
  unfold b__law_is_apart
  refine q_env (G2 := [some (.fz ((eP D.int (eU (eP D.int D.int))) told)), some (.fz ((eU D.int) places)), none, none, none]) rfl ?_
  refine q_seq ?_
  refine p_if (st_or (st_not (st_val (sp_cb1 (sp_var_fz (i := 1) rfl) rd_fz (k_isn (d := (eU D.int) places) isi_tuple_tuple)) rd_fz)) (fun hb => (st_val (sp_bin (sp_var_fz (i := 1) rfl) rd_fz (sp_tup sa_nil rfl (Nat.le_of_ble_eq_true rfl)) rd_fz (k_eq (a := places) (b := ([] : List Int)) (ok_U ok_int) (Nat.le_of_ble_eq_true rfl))) rd_fz))) (fun hb => ?_) (fun hb => ?_)
  · replace h := h.1 hb
    exact p_ret sp_con (hR _ h)
  · replace h := h.2 hb
    refine q_nextS ?_
    refine q_for0 D.int ([some (.fz ((eP D.int (eU (eP D.int D.int))) told)), some (.fz ((eU D.int) places)), none, none, none]) (si_seqU (sp_var_fz (i := 1) rfl) fz_fz) rfl h (fun one P C h hC => ?_) (fun h => ?_)
    · refine (sg_name (G' := [some (.fz ((eP D.int (eU (eP D.int D.int))) told)), some (.fz ((eU D.int) places)), some (.fz (D.int one)), none, none]) (lt_l rfl) rfl) _ ?_
      refine q_seq ?_
      refine p_if (st_or (st_not (st_val (sp_cb1 (sp_var_fz (i := 2) rfl) rd_fz (k_isn (d := D.int one) isi_int_int)) rd_fz)) (fun hb => (st_or (st_val (sp_cb1 (sp_var_fz (i := 2) rfl) rd_fz (k_isn (d := D.int one) isi_int_bool)) rd_fz) (fun hb => (st_not (st_val (sp_chain sp_con rd_fz (sp_var_fz (i := 2) rfl) rd_fz (fun hb => (sp_bin (sp_var_fz (i := 0) rfl) rd_fz sp_con rd_fz k_ix0)) (fun _ => rd_fz)) rd_fz)))))) (fun hb => ?_) (fun hb => ?_)
      · replace h := h.1 hb
        exact p_ret sp_con (hR _ h)
      · replace h := h.2 hb
        refine q_nextS ?_
        refine p_kill (G' := [some (.fz ((eP D.int (eU (eP D.int D.int))) told)), some (.fz ((eU D.int) places)), none, none, none]) rfl ?_
        exact hC h
    obtain ⟨q1, h⟩ := h
    refine q_for0 D.int ([some (.fz ((eP D.int (eU (eP D.int D.int))) told)), some (.fz ((eU D.int) places)), none, none, none]) (si_range2 (sa_consP sp_con fz_fz (sa_consP (sp_cb1 (sp_var_fz (i := 1) rfl) rd_fz (k_lenU (e := D.int))) fz_fz sa_nil)) q1) rfl h (fun k P C h hC => ?_) (fun h => ?_)
    · refine (sg_name (G' := [some (.fz ((eP D.int (eU (eP D.int D.int))) told)), some (.fz ((eU D.int) places)), none, some (.fz (D.int k)), none]) (lt_l rfl) rfl) _ ?_
      refine q_seq ?_
      obtain ⟨q2, q3, h⟩ := h
      refine p_if (st_val (sp_bin (sp_bin (sp_var_fz (i := 1) rfl) rd_fz (sp_bin (sp_var_fz (i := 3) rfl) rd_fz sp_con rd_fz k_sub) rd_fz (k_ixU (e := D.int) q2)) rd_fz (sp_bin (sp_var_fz (i := 1) rfl) rd_fz (sp_var_fz (i := 3) rfl) rd_fz (k_ixU (e := D.int) q3)) rd_fz k_ge) rd_fz) (fun hb => ?_) (fun hb => ?_)
      · replace h := h.1 hb
        exact p_ret sp_con (hR _ h)
      · replace h := h.2 hb
        refine q_nextS ?_
        refine q_for0 D.int ([some (.fz ((eP D.int (eU (eP D.int D.int))) told)), some (.fz ((eU D.int) places)), none, some (.fz (D.int k)), none]) (si_seqU (sp_sliceU (e := D.int) (sp_var_fz (i := 1) rfl) rd_fz so_none (so_some (sp_var_fz (i := 3) rfl) rd_fz)) fz_fz) rfl h (fun other P C h hC => ?_) (fun h => ?_)
        · refine (sg_name (G' := [some (.fz ((eP D.int (eU (eP D.int D.int))) told)), some (.fz ((eU D.int) places)), none, some (.fz (D.int k)), some (.fz (D.int other))]) (lt_l rfl) rfl) _ ?_
          refine q_seq ?_
          obtain ⟨q4, h⟩ := h
          refine p_if (st_val (sp_call (sa_cons (sp_var_fz (i := 0) rfl) fz_fz (sa_cons (sp_var_fz (i := 4) rfl) fz_fz (sa_consP (sp_bin (sp_var_fz (i := 1) rfl) rd_fz (sp_var_fz (i := 3) rfl) rd_fz (k_ixU (e := D.int) q4)) fz_fz sa_nil))) rfl rfl (fun R hR => ⟨told, other, (gi places k), rfl, hR⟩)) rd_fz) (fun hb => ?_) (fun hb => ?_)
          · replace h := h.1 hb
            exact p_ret sp_con (hR _ h)
          · replace h := h.2 hb
            refine q_nextS ?_
            refine p_kill (G' := [some (.fz ((eP D.int (eU (eP D.int D.int))) told)), some (.fz ((eU D.int) places)), none, some (.fz (D.int k)), none]) rfl ?_
            exact hC h
        refine p_kill (G' := [some (.fz ((eP D.int (eU (eP D.int D.int))) told)), some (.fz ((eU D.int) places)), none, none, none]) rfl ?_
        exact hC h
    exact p_ret sp_con (hR _ h)
theorem law__law_is_apart : ∀ ts R, ts.length = 2 → F__law_is_apart ts R → b__law_is_apart ⟨fun G => R (G.take 0) (.fz .non), retW 0 R⟩ (ts.map some ++ List.replicate ((["_law_told", "_law_places", "_law_one", "_law_k", "_law_other"] : List Str).length - 2) none) := by
  rintro ts R hl ⟨told, places, rfl, hp, q⟩
  exact sim__law_is_apart _ R hl ⟨told, places, fun r => r = apartF told places, rfl, spec__law_is_apart hp rfl, fun r e => by subst e; exact q⟩
theorem ok__law_is_apart {f : Addr} {fd : FuncData} (Fd : C8.Def K mg "_law_is_apart" s__law_is_apart f fd) (bd : Binds K fd ["_law_told", "_law_places"] []) (h__law_tied : Fn P w K mg base 1 "_law_tied" 3 0 F__law_tied) (T_bool : mg "bool" = none) (T_int : mg "int" = none) (T_isinstance : mg "isinstance" = none) (T_len : mg "len" = none) (T_range : mg "range" = none) (T_tuple : mg "tuple" = none) : Fn P w K mg base 2 "_law_is_apart" 2 0 F__law_is_apart := by
  refine fn_mk (body := b__law_is_apart) Fd bd sc__law_is_apart rfl (by decide) (fun cdv A outer s H E hgd hr => ?_) law__law_is_apart
  have nd := sc__law_is_apart.nd
  have hu64 := hr.units
  have hu65 := hu65 hr
  have hu1 := hu1 hr
  have hu2 := hu2 hr
  have hu0 := hr.units0
  exact (dss_cons (ds_if (DW.dt (dw_or (dt_not (dt_val (de_cb1c isinst_ok (by rfl) T_isinstance (by decide +kernel) (de_var (pv 1)) (pe_bltn (v := .ty "tuple") (by rfl) T_tuple (by decide +kernel) rfl) (fun _ => .opq)))) (dw_or1 (dt_cmp (eq_ok hu64) (nomark _) (de_var (pv 1)) (de_tup da_nil))))) (dss_one (ds_ret de_bl)) dss_nil)
    (dss_cons (ds_for PassesOwn.never rfl (di_seq (de_var (pv 1))) (dg_name (i := 2) (pg_name (i := 2) nd rfl (.inl rfl)) (fun _ _ => take_set (by decide))) (dss_cons (ds_if (DW.dt (dw_or (dt_not (dt_val (de_cb1c isinst_ok (by rfl) T_isinstance (by decide +kernel) (de_var (pv 2)) (pe_bltn (v := .ty "int") (by rfl) T_int (by decide +kernel) rfl) (fun _ => .opq)))) (dw_or (dt_val (de_cb1c isinst_ok (by rfl) T_isinstance (by decide +kernel) (de_var (pv 2)) (pe_bltn (v := .ty "bool") (by rfl) T_bool (by decide +kernel) rfl) (fun _ => .opq))) (dw_or1 (dt_not (dt_chain op_le op_lt de_int (de_var (pv 2)) (de_ix hu1 (de_var (pv 0)) de_int (fun _ _ => rfl)))))))) (dss_one (ds_ret de_bl)) dss_nil)
    (dss_kill [2] dss_nil)))
    (dss_cons (ds_for PassesOwn.never rfl (di_range2 (by rfl) T_range (da_consP de_int (da_consP (de_cb1 len_ok (by rfl) T_len (by decide +kernel) (de_var (pv 1))) da_nil))) (dg_name (i := 3) (pg_name (i := 3) nd rfl (.inl rfl)) (fun _ _ => take_set (by decide))) (dss_cons (ds_if (dt_cmp ge_ok (nomark _) (de_ix hu1 (de_var (pv 1)) (de_bin sub_ok (de_var (pv 3)) de_int) (fun _ _ => rfl)) (de_ix hu1 (de_var (pv 1)) (de_var (pv 3)) (fun _ _ => rfl))) (dss_one (ds_ret de_bl)) dss_nil)
    (dss_cons (ds_for PassesOwn.never rfl (di_seq (de_slice (de_var (pv 1)) do_none (do_some (de_var (pv 3))))) (dg_name (i := 4) (pg_name (i := 4) nd rfl (.inl rfl)) (fun _ _ => take_set (by decide))) (dss_cons (ds_if (dt_val (de_call h__law_tied hgd hr (by decide) (by rfl) (da_cons (de_var (pv 0)) (da_cons (de_var (pv 4)) (da_consP (de_ix hu1 (de_var (pv 1)) (de_var (pv 3)) (fun _ _ => rfl)) da_nil))))) (dss_one (ds_ret de_bl)) dss_nil)
    (dss_kill [4] dss_nil)))
    (dss_kill [3] dss_nil))))
    (dss_one (ds_ret de_bl)))))
abbrev s__law_covers : Stmt := topS 29
theorem sc__law_covers : FnScope ["_law_told", "_law_thing", "_law_one", "_law_place", "_law_top", "_law_bottom"] ["_law_told", "_law_thing"] (C8.fnScope s__law_covers) := C8.fnScope_by (by decide +kernel)
def w__law_covers (told : Int × (List (Int × Int))) (thing : List ((List Int) × (Int × Int))) (Q : Bool → Prop) : Prop :=
  wIf (!true)
  (Q false)
  (wFor0 (thing) (fun (one : (List Int) × (Int × Int)) nx =>
  ((!true) = false → ((!decide ((2 : Int) = (2 : Int))) = false → (apartP told one.1))) ∧ wIf ((!true) || ((!decide ((2 : Int) = (2 : Int))) || (!(apartF told one.1))))
  (Q false)
  ((fracIsP one.2) ∧ wIf ((!(fracIsF one.2)) || (decide (one.2.1 ≤ (0 : Int))))
  (Q false)
  (nx)))
  ((-(2 ^ 62) ≤ told.1 ∧ told.1 < 2 ^ 62) ∧ wFor0 (irange 0 told.1) (fun (place : Int) nx =>
  ((thing).length ≤ 10000000) ∧ (sumP ((true : Bool), ((thing).filter (fun one1 => inl place one1.1)).map (fun one1 => one1.2))) ∧ bnd (sumF ((true : Bool), ((thing).filter (fun one1 => inl place one1.1)).map (fun one1 => one1.2))) fun p =>
  wIf (decide (p.1 < p.2))
  (Q false)
  (nx))
  (Q true)))
theorem spec__law_covers {told : Web} {thing : List (List Int × (Int × Int))} (h : coversP told thing) {Q : Bool → Prop} (q : Q (coversF told thing)) : w__law_covers told thing Q := by
  obtain ⟨hw, n24, C, rfl, cl, cin, cov⟩ := h
  unfold w__law_covers
  refine ⟨fun hb => by simp at hb, fun _ => ?_⟩
  refine wFor0_inv (fun _ => True) trivial (fun _ => ?_) fun pre x post K e _ c => ?_
  · refine ⟨by have := hw.n0; omega, ?_⟩
    refine wFor0_inv (fun _ => True) trivial (fun _ => q) fun pre place post K e _ c => ?_
    obtain ⟨p0, p1⟩ := mem_irange.mp (show place ∈ irange 0 told.1 by rw [e]; simp)
    have e1 : ((C.map fun p => (p.1, qF p.2)).filter fun one1 => inl place one1.1).map (fun one1 => one1.2) = ((C.filter fun p => inl place p.1).map (·.2)).map qF := by
      rw [List.filter_map, List.map_map, List.map_map]; rfl
    rw [e1]
    have fl : (C.filter fun p => inl place p.1).length ≤ 30 := Nat.le_trans (List.length_filter_le ..) cl
    refine ⟨by rw [List.length_map]; omega, sumP_q (k := 128) (fun y hy => ?_) (by rw [List.length_map]; omega), ?_⟩
    · obtain ⟨p, hp, rfl⟩ := List.mem_map.mp hy
      exact (cin p (List.mem_filter.mp hp).1).2.2.2
    rintro _ rfl
    obtain ⟨s1, s2⟩ := sumF_q true ((C.filter fun p => inl place p.1).map (·.2))
    refine ⟨fun hb => ?_, fun _ => c trivial⟩
    have lt := (toR_one s1).1.mpr (of_decide_eq_true hb)
    rw [s2] at lt
    have := cov place p0 p1
    grind
  · have mx : x ∈ C.map fun p => (p.1, qF p.2) := by rw [e]; simp
    obtain ⟨p, hp, rfl⟩ := List.mem_map.mp mx
    obtain ⟨k1, k2, k3, k4⟩ := cin p hp
    refine ⟨fun _ _ => ⟨hw, n24, k1, k2⟩, fun hb => by simp [apartF] at hb, fun _ => ⟨⟨p.2, rfl⟩, fun hb => ?_, fun _ => c trivial⟩⟩
    have : (qF p.2).1 ≤ 0 := by simpa [fracIsF] using hb
    have := num_pos k3
    have : p.2.num ≤ 0 := by assumption
    omega
def Fw__law_covers : FS := fun ts R => ∃ (told : Int × (List (Int × Int))) (thing : List ((List Int) × (Int × Int))) (P : Bool → Prop), ts = [(.fz ((eP D.int (eU (eP D.int D.int))) told)), (.fz ((eL (eP (eU D.int) eF)) thing))] ∧ w__law_covers told thing P ∧ ∀ (r : Bool), P  r → R [] ((.fz (D.bl r)))
def F__law_covers : FS := fun ts R => ∃ (told : Int × (List (Int × Int))) (thing : List ((List Int) × (Int × Int))), ts = [(.fz ((eP D.int (eU (eP D.int D.int))) told)), (.fz ((eL (eP (eU D.int) eF)) thing))] ∧ coversP told thing ∧ R [] ((.fz (D.bl (coversF told thing))))
def b__law_covers : DTS := (dSeq (dIf (dNot (dVal (dCB1 (fun y R => isinstD [y, .opq (.ty "list")] R) (dVar 1)))) (dRet (dConst (.fz (.bl false)))) dNext)
    (dSeq (dFor (iSeqD (dVar 1)) (gN 2) (dSeq (dIf (dOr (dNot (dVal (dCB1 (fun y R => isinstD [y, .opq (.ty "tuple")] R) (dVar 2)))) (dOr (dVal (dBin neD true (dCB1 (fun y R => lenD [y] R) (dVar 2)) (dConst (.fz (.int 2))))) (dNot (dVal (dCall 2 F__law_is_apart (dACons (dVar 0) (dAConsP (dBin ixD true (dVar 2) (dConst (.fz (.int 0)))) dNil))))))) (dRet (dConst (.fz (.bl false)))) dNext)
    (dSeq (dIf (dOr (dNot (dVal (dCallP 1 F__law_fraction_is (dAConsP (dBin ixD true (dVar 2) (dConst (.fz (.int 1)))) dNil)))) (dVal (dBin (cmpI fun i j => decide (i ≤ j)) true (dBin ixD true (dBin ixD true (dVar 2) (dConst (.fz (.int 1)))) (dConst (.fz (.int 0)))) (dConst (.fz (.int 0)))))) (dRet (dConst (.fz (.bl false)))) dNext)
    (dSeq (dKill [2]) dNext))))
    (dSeq (dFor (iRange1 (dAConsP (dBin ixD true (dVar 0) (dConst (.fz (.int 0)))) dNil)) (gN 3) (dSeq (dAsg (dCall 1 F__law_total (dACons (dLc (iSeqD (dVar 1)) (gN 2) (dVal (dBin (inD false) true (dVar 3) (dBin ixD true (dVar 2) (dConst (.fz (.int 0)))))) (dBin ixD true (dVar 2) (dConst (.fz (.int 1)))) [2]) dNil)) (gT 2 (gsCons (gN 4) (gsCons (gN 5) gsNil))))
    (dSeq (dIf (dVal (dBin (cmpI fun i j => decide (i < j)) true (dVar 4) (dVar 5))) (dRet (dConst (.fz (.bl false)))) dNext)
    (dSeq (dKill [3, 4, 5]) dNext))))
    (dRet (dConst (.fz (.bl true)))))))
set_option maxHeartbeats 4000000 in
theorem sim__law_covers : ∀ ts R, ts.length = 2 → Fw__law_covers ts R → b__law_covers ⟨fun G => R (G.take 0) (.fz .non), retW 0 R⟩ (ts.map some ++ List.replicate ((["_law_told", "_law_thing", "_law_one", "_law_place", "_law_top", "_law_bottom"] : List Str).length - 2) none) := by
  rintro ts R - ⟨told, thing, P, rfl, h, hR⟩
  unfold w__law_covers at h
  unfold b__law_covers
  refine q_env (G2 := [some (.fz ((eP D.int (eU (eP D.int D.int))) told)), some (.fz ((eL (eP (eU D.int) eF)) thing)), none, none, none, none]) rfl ?_
  refine q_seq ?_
  refine p_if (st_not (st_val (sp_cb1 (sp_var_fz (i := 1) rfl) rd_fz (k_isn (d := (eL (eP (eU D.int) eF)) thing) isi_list_list)) rd_fz)) (fun hb => ?_) (fun hb => ?_)
  · replace h := h.1 hb
    exact p_ret sp_con (hR _ h)
  · replace h := h.2 hb
    refine q_nextS ?_
    refine q_for0 (eP (eU D.int) eF) ([some (.fz ((eP D.int (eU (eP D.int D.int))) told)), some (.fz ((eL (eP (eU D.int) eF)) thing)), none, none, none, none]) (si_seqL (sp_var_fz (i := 1) rfl) fz_fz) rfl h (fun one P C h hC => ?_) (fun h => ?_)
    · refine (sg_name (G' := [some (.fz ((eP D.int (eU (eP D.int D.int))) told)), some (.fz ((eL (eP (eU D.int) eF)) thing)), some (.fz ((eP (eU D.int) eF) one)), none, none, none]) (lt_l rfl) rfl) _ ?_
      refine q_seq ?_
      obtain ⟨q3, h⟩ := h
      refine p_if (st_or (st_not (st_val (sp_cb1 (sp_var_fz (i := 2) rfl) rd_fz (k_isn (d := (eP (eU D.int) eF) one) isi_tuple_tuple)) rd_fz)) (fun hb => (have q2 := q3 hb; (st_or (st_val (sp_bin (sp_cb1 (sp_var_fz (i := 2) rfl) rd_fz (k_lenP (n := 2) rfl)) rd_fz sp_con rd_fz (k_ne (a := (2 : Int)) (b := (2 : Int)) ok_int (Nat.le_of_ble_eq_true rfl))) rd_fz) (fun hb => (have q1 := q2 hb; (st_not (st_val (sp_call (sa_cons (sp_var_fz (i := 0) rfl) fz_fz (sa_consP (sp_bin (sp_var_fz (i := 2) rfl) rd_fz sp_con rd_fz k_ix0) fz_fz sa_nil)) rfl rfl (fun R hR => ⟨told, one.1, rfl, q1, hR⟩)) rd_fz)))))))) (fun hb => ?_) (fun hb => ?_)
      · replace h := h.1 hb
        exact p_ret sp_con (hR _ h)
      · replace h := h.2 hb
        refine q_nextS ?_
        refine q_seq ?_
        obtain ⟨q4, h⟩ := h
        refine p_if (st_or (st_not (st_val (sp_callP (sa_consP (sp_bin (sp_var_fz (i := 2) rfl) rd_fz sp_con rd_fz k_ix1) fz_fz sa_nil) rfl rfl (fun R hR => ⟨one.2, rfl, q4, hR⟩)) rd_fz)) (fun hb => (st_val (sp_bin (sp_bin (sp_bin (sp_var_fz (i := 2) rfl) rd_fz sp_con rd_fz k_ix1) rd_fz sp_con rd_fz k_ixF0) rd_fz sp_con rd_fz k_le) rd_fz))) (fun hb => ?_) (fun hb => ?_)
        · replace h := h.1 hb
          exact p_ret sp_con (hR _ h)
        · replace h := h.2 hb
          refine q_nextS ?_
          refine p_kill (G' := [some (.fz ((eP D.int (eU (eP D.int D.int))) told)), some (.fz ((eL (eP (eU D.int) eF)) thing)), none, none, none, none]) rfl ?_
          exact hC h
    obtain ⟨q5, h⟩ := h
    refine q_for0 D.int ([some (.fz ((eP D.int (eU (eP D.int D.int))) told)), some (.fz ((eL (eP (eU D.int) eF)) thing)), none, none, none, none]) (si_range1 (sa_consP (sp_bin (sp_var_fz (i := 0) rfl) rd_fz sp_con rd_fz k_ix0) fz_fz sa_nil) q5) rfl h (fun place P C h hC => ?_) (fun h => ?_)
    · refine (sg_name (G' := [some (.fz ((eP D.int (eU (eP D.int D.int))) told)), some (.fz ((eL (eP (eU D.int) eF)) thing)), none, some (.fz (D.int place)), none, none]) (lt_l rfl) rfl) _ ?_
      obtain ⟨q6, q7, h⟩ := h
      refine p_asgB (fun x => (eP D.int D.int) x) (G' := fun p => [some (.fz ((eP D.int (eU (eP D.int D.int))) told)), some (.fz ((eL (eP (eU D.int) eF)) thing)), none, some (.fz (D.int place)), some (.fz (D.int p.1)), some (.fz (D.int p.2))]) h (sp_call (sa_cons (sp_lc (eP (eU D.int) eF) (fun one1 => inl place one1.1) (fun one1 => one1.2) eF (fun one1 => [some (.fz ((eP D.int (eU (eP D.int D.int))) told)), some (.fz ((eL (eP (eU D.int) eF)) thing)), some (.fz ((eP (eU D.int) eF) one1)), some (.fz (D.int place)), none, none]) (si_seqL (sp_var_fz (i := 1) rfl) fz_fz) q6 (fun one1 hx => (sg_name (G' := [some (.fz ((eP D.int (eU (eP D.int D.int))) told)), some (.fz ((eL (eP (eU D.int) eF)) thing)), some (.fz ((eP (eU D.int) eF) one1)), some (.fz (D.int place)), none, none]) (lt_l rfl) rfl)) (fun one1 hx => (st_val (sp_bin (sp_var_fz (i := 3) rfl) rd_fz (sp_bin (sp_var_fz (i := 2) rfl) rd_fz sp_con rd_fz k_ix0) rd_fz (k_inU (a := place) (l := one1.1) ok_int (Nat.le_of_ble_eq_true rfl))) rd_fz)) (fun one1 hx hp => ⟨_, (sp_bin (sp_var_fz (i := 2) rfl) rd_fz sp_con rd_fz k_ix1), fz_fz⟩) (fun _ => rfl) rfl) fz_ls sa_nil) rfl rfl (fun R hR => ⟨((true : Bool), ((thing).filter (fun one1 => inl place one1.1)).map (fun one1 => one1.2)), rfl, q7, hR⟩)) fz_fz (fun p => (sg_pair (G' := [some (.fz ((eP D.int (eU (eP D.int D.int))) told)), some (.fz ((eL (eP (eU D.int) eF)) thing)), none, some (.fz (D.int place)), some (.fz (D.int p.1)), some (.fz (D.int p.2))]) (lt_l rfl) (lt_l rfl) rfl)) fun p h => ?_
      refine q_seq ?_
      refine p_if (st_val (sp_bin (sp_var_fz (i := 4) rfl) rd_fz (sp_var_fz (i := 5) rfl) rd_fz k_lt) rd_fz) (fun hb => ?_) (fun hb => ?_)
      · replace h := h.1 hb
        exact p_ret sp_con (hR _ h)
      · replace h := h.2 hb
        refine q_nextS ?_
        refine p_kill (G' := [some (.fz ((eP D.int (eU (eP D.int D.int))) told)), some (.fz ((eL (eP (eU D.int) eF)) thing)), none, none, none, none]) rfl ?_
        exact hC h
    exact p_ret sp_con (hR _ h)
theorem law__law_covers : ∀ ts R, ts.length = 2 → F__law_covers ts R → b__law_covers ⟨fun G => R (G.take 0) (.fz .non), retW 0 R⟩ (ts.map some ++ List.replicate ((["_law_told", "_law_thing", "_law_one", "_law_place", "_law_top", "_law_bottom"] : List Str).length - 2) none) := by
  rintro ts R hl ⟨told, thing, rfl, hp, q⟩
  exact sim__law_covers _ R hl ⟨told, thing, fun r => r = coversF told thing, rfl, spec__law_covers hp rfl, fun r e => by subst e; exact q⟩
theorem ok__law_covers {f : Addr} {fd : FuncData} (Fd : C8.Def K mg "_law_covers" s__law_covers f fd) (bd : Binds K fd ["_law_told", "_law_thing"] []) (h__law_is_apart : Fn P w K mg base 2 "_law_is_apart" 2 0 F__law_is_apart) (h__law_fraction_is : Fn P w K mg base 1 "_law_fraction_is" 1 0 F__law_fraction_is) (h__law_total : Fn P w K mg base 1 "_law_total" 1 0 F__law_total) (T_isinstance : mg "isinstance" = none) (T_len : mg "len" = none) (T_list : mg "list" = none) (T_range : mg "range" = none) (T_tuple : mg "tuple" = none) : Fn P w K mg base 3 "_law_covers" 2 0 F__law_covers := by
  refine fn_mk (body := b__law_covers) Fd bd sc__law_covers rfl (by decide) (fun cdv A outer s H E hgd hr => ?_) law__law_covers
  have nd := sc__law_covers.nd
  have hu64 := hr.units
  have hu65 := hu65 hr
  have hu1 := hu1 hr
  have hu2 := hu2 hr
  have hu0 := hr.units0
  exact (dss_cons (ds_if (dt_not (dt_val (de_cb1c isinst_ok (by rfl) T_isinstance (by decide +kernel) (de_var (pv 1)) (pe_bltn (v := .ty "list") (by rfl) T_list (by decide +kernel) rfl) (fun _ => .opq)))) (dss_one (ds_ret de_bl)) dss_nil)
    (dss_cons (ds_for PassesOwn.never rfl (di_seq (de_var (pv 1))) (dg_name (i := 2) (pg_name (i := 2) nd rfl (.inl rfl)) (fun _ _ => take_set (by decide))) (dss_cons (ds_if (DW.dt (dw_or (dt_not (dt_val (de_cb1c isinst_ok (by rfl) T_isinstance (by decide +kernel) (de_var (pv 2)) (pe_bltn (v := .ty "tuple") (by rfl) T_tuple (by decide +kernel) rfl) (fun _ => .opq)))) (dw_or (dt_cmp (ne_ok hu64) (nomark _) (de_cb1 len_ok (by rfl) T_len (by decide +kernel) (de_var (pv 2))) de_int) (dw_or1 (dt_not (dt_val (de_call h__law_is_apart hgd hr (by decide) (by rfl) (da_cons (de_var (pv 0)) (da_consP (de_ix hu1 (de_var (pv 2)) de_int (fun _ _ => rfl)) da_nil))))))))) (dss_one (ds_ret de_bl)) dss_nil)
    (dss_cons (ds_if (DW.dt (dw_or (dt_not (dt_val (de_callP h__law_fraction_is hgd hr (by decide) (by rfl) (da_consP (de_ix hu1 (de_var (pv 2)) de_int (fun _ _ => rfl)) da_nil)))) (dw_or1 (dt_cmp le_ok (nomark _) (de_ix hu1 (de_ix hu1 (de_var (pv 2)) de_int (fun _ _ => rfl)) de_int (fun _ _ => rfl)) de_int)))) (dss_one (ds_ret de_bl)) dss_nil)
    (dss_kill [2] dss_nil))))
    (dss_cons (ds_for PassesOwn.never rfl (di_range1 (by rfl) T_range (da_consP (de_ix hu1 (de_var (pv 0)) de_int (fun _ _ => rfl)) da_nil)) (dg_name (i := 3) (pg_name (i := 3) nd rfl (.inr rfl)) (fun _ _ => take_set (by decide))) (dss_cons (ds_asg (de_call h__law_total hgd hr (by decide) (by rfl) (da_cons (de_lc (own := [("_law_one", 2)]) rfl nd (di_seq (de_var (pv 1))) (blkOk_by (N := ["_law_told", "_law_thing", "_law_one", "_law_place", "_law_top", "_law_bottom"]) (sc := C8.fnScope s__law_covers) (by decide +kernel)) (fun _ _ _ _ _ => (dg_name (i := 2) (pg_name (i := 2) nd rfl (by first | exact .inl rfl | exact .inr rfl)) (fun σ x => wipe_set x (by decide)))) (fun _ _ _ _ _ => (dts_one (dt_cmp (in_ok hu65) rfl (de_var (pv 3)) (de_ix hu1 (de_var (pv 2)) de_int (fun _ _ => rfl))))) (fun _ _ _ _ _ => (de_ix hu1 (de_var (pv 2)) de_int (fun _ _ => rfl)))) da_nil)) (dg_tup rfl (dgs_cons (dg_name (i := 4) (pg_name (i := 4) nd rfl (.inl rfl)) (fun _ _ => take_set (by decide))) (dgs_cons (dg_name (i := 5) (pg_name (i := 5) nd rfl (.inl rfl)) (fun _ _ => take_set (by decide))) dgs_nil))))
    (dss_cons (ds_if (dt_cmp lt_ok (nomark _) (de_var (pv 4)) (de_var (pv 5))) (dss_one (ds_ret de_bl)) dss_nil)
    (dss_kill [3, 4, 5] dss_nil))))
    (dss_one (ds_ret de_bl)))))
abbrev s__law_weighs : Stmt := topS 30
theorem sc__law_weighs : FnScope ["_law_told", "_law_thing", "_law_one", "_law_ties", "_law_a", "_law_places", "_law_b", "_law_top", "_law_bottom", "_law_place"] ["_law_told", "_law_thing"] (C8.fnScope s__law_weighs) := C8.fnScope_by (by decide +kernel)
def w__law_weighs (told : Int × (List (Int × Int))) (thing : List (Int × Int)) (Q : Bool → Prop) : Prop :=
  wIf ((!true) || (!decide ((thing.length : Int) = told.1)))
  (Q false)
  (wFor0 (thing) (fun (one : Int × Int) nx =>
  (fracIsP one) ∧ wIf ((!(fracIsF one)) || (decide (one.1 < (0 : Int))))
  (Q false)
  (nx))
  (bnd (([] : List (Int × Int))) fun ties =>
  (-(2 ^ 62) ≤ told.1 ∧ told.1 < 2 ^ 62) ∧ wFor1 (irange 0 told.1) ties (fun ties1 (a : Int) nx =>
  (-(2 ^ 62) ≤ a + (1 : Int) ∧ a + (1 : Int) < 2 ^ 62 ∧ -(2 ^ 62) ≤ told.1 ∧ told.1 < 2 ^ 62) ∧ wFor1 (irange (a + (1 : Int)) told.1) ties1 (fun ties2 (b : Int) nx =>
  wJ1 (fun j1 =>
  wIf (!(tie told a b))
  ((ties2.length < 10000000) ∧ bnd (ties2 ++ [(a, b)]) fun ties4 =>
  j1 ties4)
  (j1 ties2))
  (fun (ties3 : List (Int × Int)) => nx ties3))
  (fun (ties2 : List (Int × Int)) => nx ties2))
  (fun (ties1 : List (Int × Int)) => (knotsP (told.1, ties1)) ∧ wFor0 (knotsF (told.1, ties1)) (fun (places : List Int) nx =>
  ((places).length ≤ 10000000) ∧ (∀ place ∈ places, (InR thing place)) ∧ (sumP ((true : Bool), (places).map (fun place => gi thing place))) ∧ bnd (sumF ((true : Bool), (places).map (fun place => gi thing place))) fun p =>
  wIf (decide (p.2 < p.1))
  (Q false)
  (nx))
  (Q true))))
theorem spec__law_weighs {told : Web} {thing : List (Int × Int)} (h : weighsP told thing) {Q : Bool → Prop} (q : Q (weighsF told thing)) : w__law_weighs told thing Q := by
  obtain ⟨hw, n10, W, rfl, wl, win, wap⟩ := h
  have n0 := hw.n0
  unfold w__law_weighs
  refine ⟨fun hb => by simp [wl] at hb, fun _ => ?_⟩
  refine wFor0_inv (fun _ => True) trivial (fun _ => ?_) fun pre x post K e _ c => ?_
  · rintro _ rfl
    refine ⟨by omega, ?_⟩
    refine wFor1_z n0 (fun a t => t = rowsTo told.1 (fun a b => !tie told a b) a) (rowsTo_0 _ _).symm ?_ ?_
    · rintro _ rfl
      have e0 : (told.1, rowsTo told.1 (fun a b => !tie told a b) told.1) = turnedF told := by
        unfold turnedF; rw [rowsTo_n]; rfl
      rw [e0]
      have tw := turnedF_web hw
      refine ⟨⟨tw, by show told.1 ≤ 20; omega⟩, ?_⟩
      refine wFor0_inv (fun _ => True) trivial (fun _ => q) fun pre k post C e _ c => ?_
      have ik : isK (turnedF told) told.1 k := (mem_knotsF tw k).mp (by rw [e]; simp)
      have ln : (k.length : Int) ≤ told.1 := ik.len n0
      have e1 : (k.map fun place => gi (W.map qF) place) = (k.map fun place => gi W place).map qF := by
        rw [List.map_map]
        refine List.map_congr_left fun p hp => ?_
        have := ik.rng p hp
        exact gi_map qF this.1 (by omega)
      rw [e1]
      refine ⟨by omega, fun p hp => by have := ik.rng p hp; exact inR this.1 (by rw [List.length_map]; omega), sumP_q (k := 128) (fun y hy => ?_) (by rw [List.length_map]; omega), ?_⟩
      · obtain ⟨p, hp, rfl⟩ := List.mem_map.mp hy
        have := ik.rng p hp
        exact (win _ (gi_mem this.1 (by omega))).2
      rintro _ rfl
      obtain ⟨s1, s2⟩ := sumF_q true (k.map fun place => gi W place)
      refine ⟨fun hb => ?_, fun _ => c trivial⟩
      have lt := (toR_one s1).2.mpr (of_decide_eq_true hb)
      rw [s2] at lt
      have := wap k ik
      grind
    · rintro a _ C a0 a1 rfl c
      refine ⟨by omega, ?_⟩
      have l1 := rowsTo_len (n := told.1) (fun a b => !tie told a b) a0 (by omega)
      have l2 : a.toNat * told.1.toNat ≤ 10 * 10 := Nat.mul_le_mul (by omega) (by omega)
      refine wFor1_z (by omega) (fun b t => t = rowsTo told.1 (fun a b => !tie told a b) a ++ rowTo (fun a b => !tie told a b) a b) (by rw [rowTo_0, List.append_nil]) ?_ ?_
      · rintro _ rfl
        exact c _ (rowsTo_snoc _ a0).symm
      · rintro b _ C2 b0 b1 rfl c2
        have l3 := rowTo_len (r := fun a b => !tie told a b) (a := a) (b := b)
        refine wJ1.mk ⟨fun hb => ⟨by rw [List.length_append]; omega, ?_⟩, fun hb => ?_⟩
        · rintro _ rfl
          refine c2 _ ?_
          rw [rowTo_yes (by omega) hb, List.append_assoc]
        · refine c2 _ ?_
          rw [rowTo_no (by omega) hb]
  · have mx : x ∈ W.map qF := by rw [e]; simp
    obtain ⟨y, hy, rfl⟩ := List.mem_map.mp mx
    refine ⟨⟨y, rfl⟩, fun hb => ?_, fun _ => c trivial⟩
    have : (qF y).1 < 0 := by simpa [fracIsF] using hb
    have := Sx.num_neg_iff.mp this
    have := (win y hy).1
    grind
def Fw__law_weighs : FS := fun ts R => ∃ (told : Int × (List (Int × Int))) (thing : List (Int × Int)) (P : Bool → Prop), ts = [(.fz ((eP D.int (eU (eP D.int D.int))) told)), (.fz ((eU eF) thing))] ∧ w__law_weighs told thing P ∧ ∀ (r : Bool), P  r → R [] ((.fz (D.bl r)))
def F__law_weighs : FS := fun ts R => ∃ (told : Int × (List (Int × Int))) (thing : List (Int × Int)), ts = [(.fz ((eP D.int (eU (eP D.int D.int))) told)), (.fz ((eU eF) thing))] ∧ weighsP told thing ∧ R [] ((.fz (D.bl (weighsF told thing))))
def b__law_weighs : DTS := (dSeq (dIf (dOr (dNot (dVal (dCB1 (fun y R => isinstD [y, .opq (.ty "tuple")] R) (dVar 1)))) (dVal (dBin neD true (dCB1 (fun y R => lenD [y] R) (dVar 1)) (dBin ixD true (dVar 0) (dConst (.fz (.int 0))))))) (dRet (dConst (.fz (.bl false)))) dNext)
    (dSeq (dFor (iSeqD (dVar 1)) (gN 2) (dSeq (dIf (dOr (dNot (dVal (dCall 1 F__law_fraction_is (dACons (dVar 2) dNil)))) (dVal (dBin (cmpI fun i j => decide (i < j)) true (dBin ixD true (dVar 2) (dConst (.fz (.int 0)))) (dConst (.fz (.int 0)))))) (dRet (dConst (.fz (.bl false)))) dNext)
    (dSeq (dKill [2]) dNext)))
    (dSeq (dSet 3 (dLst dNil))
    (dSeq (dFor (iRange1 (dAConsP (dBin ixD true (dVar 0) (dConst (.fz (.int 0)))) dNil)) (gN 4) (dSeq (dFor (iRange2 (dAConsP (dBin addD true (dVar 4) (dConst (.fz (.int 1)))) (dAConsP (dBin ixD true (dVar 0) (dConst (.fz (.int 0)))) dNil))) (gN 6) (dSeq (dCut (dIf (dNot (dVal (dCall 3 F__law_tied (dACons (dVar 0) (dACons (dVar 4) (dACons (dVar 6) dNil)))))) (dSeq (dExpr (dMeth "list" appendN false (dVar 3) (dACons (dTup (dACons (dVar 4) (dACons (dVar 6) dNil))) dNil)))
    dNext) dNext))
    (dSeq (dKill [6]) dNext)))
    (dSeq (dKill [4]) dNext)))
    (dSeq (dFor (iSeqD (dCallP 1 F__law_knots (dAConsP (dTup (dAConsP (dBin ixD true (dVar 0) (dConst (.fz (.int 0)))) (dAConsP (dCB1 (fun y R => tupleD [y] R) (dVar 3)) dNil))) dNil))) (gN 5) (dSeq (dAsg (dCall 1 F__law_total (dACons (dLc (iSeqD (dVar 5)) (gN 9) dYes (dBin ixD true (dVar 1) (dVar 9)) [9]) dNil)) (gT 2 (gsCons (gN 7) (gsCons (gN 8) gsNil))))
    (dSeq (dIf (dVal (dBin (cmpI fun i j => decide (j < i)) true (dVar 7) (dVar 8))) (dRet (dConst (.fz (.bl false)))) dNext)
    (dSeq (dKill [5, 7, 8]) dNext))))
    (dRet (dConst (.fz (.bl true)))))))))
set_option maxHeartbeats 4000000 in
theorem sim__law_weighs : ∀ ts R, ts.length = 2 → Fw__law_weighs ts R → b__law_weighs ⟨fun G => R (G.take 0) (.fz .non), retW 0 R⟩ (ts.map some ++ List.replicate ((["_law_told", "_law_thing", "_law_one", "_law_ties", "_law_a", "_law_places", "_law_b", "_law_top", "_law_bottom", "_law_place"] : List Str).length - 2) none) := by
  rintro ts R - ⟨told, thing, P, rfl, h, hR⟩
  unfold w__law_weighs at h
  unfold b__law_weighs
  refine q_env (G2 := [some (.fz ((eP D.int (eU (eP D.int D.int))) told)), some (.fz ((eU eF) thing)), none, none, none, none, none, none, none, none]) rfl ?_
  refine q_seq ?_
  refine p_if (st_or (st_not (st_val (sp_cb1 (sp_var_fz (i := 1) rfl) rd_fz (k_isn (d := (eU eF) thing) isi_tuple_tuple)) rd_fz)) (fun hb => (st_val (sp_bin (sp_cb1 (sp_var_fz (i := 1) rfl) rd_fz (k_lenU (e := eF))) rd_fz (sp_bin (sp_var_fz (i := 0) rfl) rd_fz sp_con rd_fz k_ix0) rd_fz (k_ne (a := (thing.length : Int)) (b := told.1) ok_int (Nat.le_of_ble_eq_true rfl))) rd_fz))) (fun hb => ?_) (fun hb => ?_)
  · replace h := h.1 hb
    exact p_ret sp_con (hR _ h)
  · replace h := h.2 hb
    refine q_nextS ?_
    refine q_for0 eF ([some (.fz ((eP D.int (eU (eP D.int D.int))) told)), some (.fz ((eU eF) thing)), none, none, none, none, none, none, none, none]) (si_seqU (sp_var_fz (i := 1) rfl) fz_fz) rfl h (fun one P C h hC => ?_) (fun h => ?_)
    · refine (sg_name (G' := [some (.fz ((eP D.int (eU (eP D.int D.int))) told)), some (.fz ((eU eF) thing)), some (.fz (eF one)), none, none, none, none, none, none, none]) (lt_l rfl) rfl) _ ?_
      refine q_seq ?_
      obtain ⟨q1, h⟩ := h
      refine p_if (st_or (st_not (st_val (sp_call (sa_cons (sp_var_fz (i := 2) rfl) fz_fz sa_nil) rfl rfl (fun R hR => ⟨one, rfl, q1, hR⟩)) rd_fz)) (fun hb => (st_val (sp_bin (sp_bin (sp_var_fz (i := 2) rfl) rd_fz sp_con rd_fz k_ixF0) rd_fz sp_con rd_fz k_lt) rd_fz))) (fun hb => ?_) (fun hb => ?_)
      · replace h := h.1 hb
        exact p_ret sp_con (hR _ h)
      · replace h := h.2 hb
        refine q_nextS ?_
        refine p_kill (G' := [some (.fz ((eP D.int (eU (eP D.int D.int))) told)), some (.fz ((eU eF) thing)), none, none, none, none, none, none, none, none]) rfl ?_
        exact hC h
    refine p_setB (fun x => (tLs (eP D.int D.int) x)) (G' := fun ties => [some (.fz ((eP D.int (eU (eP D.int D.int))) told)), some (.fz ((eU eF) thing)), none, some (tLs (eP D.int D.int) ties), none, none, none, none, none, none]) h (sp_lst sa_nil rfl (Nat.le_of_ble_eq_true rfl)) (lt_l rfl) (fun _ => rfl) fun ties h => ?_
    obtain ⟨q2, h⟩ := h
    refine q_for1 D.int (fun (ties1 : List (Int × Int)) => [some (.fz ((eP D.int (eU (eP D.int D.int))) told)), some (.fz ((eU eF) thing)), none, some (tLs (eP D.int D.int) ties1), none, none, none, none, none, none]) (si_range1 (sa_consP (sp_bin (sp_var_fz (i := 0) rfl) rd_fz sp_con rd_fz k_ix0) fz_fz sa_nil) q2) rfl h (fun ties1 a P C h hC => ?_) (fun ties1 h => ?_)
    · refine (sg_name (G' := [some (.fz ((eP D.int (eU (eP D.int D.int))) told)), some (.fz ((eU eF) thing)), none, some (tLs (eP D.int D.int) ties1), some (.fz (D.int a)), none, none, none, none, none]) (lt_l rfl) rfl) _ ?_
      obtain ⟨q3, h⟩ := h
      refine q_for1 D.int (fun (ties2 : List (Int × Int)) => [some (.fz ((eP D.int (eU (eP D.int D.int))) told)), some (.fz ((eU eF) thing)), none, some (tLs (eP D.int D.int) ties2), some (.fz (D.int a)), none, none, none, none, none]) (si_range2 (sa_consP (sp_bin (sp_var_fz (i := 4) rfl) rd_fz sp_con rd_fz k_add) fz_fz (sa_consP (sp_bin (sp_var_fz (i := 0) rfl) rd_fz sp_con rd_fz k_ix0) fz_fz sa_nil)) q3) rfl h (fun ties2 b P C h hC => ?_) (fun ties2 h => ?_)
      · refine (sg_name (G' := [some (.fz ((eP D.int (eU (eP D.int D.int))) told)), some (.fz ((eU eF) thing)), none, some (tLs (eP D.int D.int) ties2), some (.fz (D.int a)), none, some (.fz (D.int b)), none, none, none]) (lt_l rfl) rfl) _ ?_
        refine q_cut1 (fun (ties3 : List (Int × Int)) => [some (.fz ((eP D.int (eU (eP D.int D.int))) told)), some (.fz ((eU eF) thing)), none, some (tLs (eP D.int D.int) ties3), some (.fz (D.int a)), none, some (.fz (D.int b)), none, none, none]) h (fun j1 h => ?_) (fun ties3 h => ?_)
        · refine p_if (st_not (st_val (sp_call (sa_cons (sp_var_fz (i := 0) rfl) fz_fz (sa_cons (sp_var_fz (i := 4) rfl) fz_fz (sa_cons (sp_var_fz (i := 6) rfl) fz_fz sa_nil))) rfl rfl (fun R hR => ⟨told, a, b, rfl, hR⟩)) rd_fz)) (fun hb => ?_) (fun hb => ?_)
          · replace h := h.1 hb
            obtain ⟨q4, h⟩ := h
            obtain ⟨ties4, e_ties4, h⟩ := h.get
            refine p_app (i := 3) (e := (eP D.int D.int)) (x := (a, b)) rfl (sa_cons (sp_tup (sa_cons (sp_var_fz (i := 4) rfl) fz_fz (sa_cons (sp_var_fz (i := 6) rfl) fz_fz sa_nil)) rfl (Nat.le_of_ble_eq_true rfl)) fz_fz sa_nil) q4 (G' := [some (.fz ((eP D.int (eU (eP D.int D.int))) told)), some (.fz ((eU eF) thing)), none, some (tLs (eP D.int D.int) ties4), some (.fz (D.int a)), none, some (.fz (D.int b)), none, none, none]) (by subst e_ties4; rfl) ?_
            exact ⟨_, h, rfl⟩
          · replace h := h.2 hb
            exact ⟨_, h, rfl⟩
        refine p_kill (G' := [some (.fz ((eP D.int (eU (eP D.int D.int))) told)), some (.fz ((eU eF) thing)), none, some (tLs (eP D.int D.int) ties3), some (.fz (D.int a)), none, none, none, none, none]) rfl ?_
        exact hC _ h
      refine p_kill (G' := [some (.fz ((eP D.int (eU (eP D.int D.int))) told)), some (.fz ((eU eF) thing)), none, some (tLs (eP D.int D.int) ties2), none, none, none, none, none, none]) rfl ?_
      exact hC _ h
    obtain ⟨q5, h⟩ := h
    refine q_for0 (eU D.int) ([some (.fz ((eP D.int (eU (eP D.int D.int))) told)), some (.fz ((eU eF) thing)), none, some (tLs (eP D.int D.int) ties1), none, none, none, none, none, none]) (si_seqL (sp_callP (sa_consP (sp_tup (sa_consP (sp_bin (sp_var_fz (i := 0) rfl) rd_fz sp_con rd_fz k_ix0) fz_fz (sa_consP (sp_cb1 (sp_var (i := 3) rfl trivial) (rd_pk rfl rfl) k_tupL) fz_fz sa_nil)) rfl (Nat.le_of_ble_eq_true rfl)) fz_fz sa_nil) rfl rfl (fun R hR => ⟨(told.1, ties1), rfl, q5, hR⟩)) fz_ls) rfl h (fun places P C h hC => ?_) (fun h => ?_)
    · refine (sg_name (G' := [some (.fz ((eP D.int (eU (eP D.int D.int))) told)), some (.fz ((eU eF) thing)), none, some (tLs (eP D.int D.int) ties1), none, some (.fz ((eU D.int) places)), none, none, none, none]) (lt_l rfl) rfl) _ ?_
      obtain ⟨q6, q8, q9, h⟩ := h
      refine p_asgB (fun x => (eP D.int D.int) x) (G' := fun p => [some (.fz ((eP D.int (eU (eP D.int D.int))) told)), some (.fz ((eU eF) thing)), none, some (tLs (eP D.int D.int) ties1), none, some (.fz ((eU D.int) places)), none, some (.fz (D.int p.1)), some (.fz (D.int p.2)), none]) h (sp_call (sa_cons (sp_lc0 D.int (fun place => gi thing place) eF (fun place => [some (.fz ((eP D.int (eU (eP D.int D.int))) told)), some (.fz ((eU eF) thing)), none, some (tLs (eP D.int D.int) ties1), none, some (.fz ((eU D.int) places)), none, none, none, some (.fz (D.int place))]) (si_seqU (sp_var_fz (i := 5) rfl) fz_fz) q6 (fun place hx => (sg_name (G' := [some (.fz ((eP D.int (eU (eP D.int D.int))) told)), some (.fz ((eU eF) thing)), none, some (tLs (eP D.int D.int) ties1), none, some (.fz ((eU D.int) places)), none, none, none, some (.fz (D.int place))]) (lt_l rfl) rfl)) (fun place hx => (have q7 := q8 place hx; ⟨_, (sp_bin (sp_var_fz (i := 1) rfl) rd_fz (sp_var_fz (i := 9) rfl) rd_fz (k_ixU (e := eF) q7)), fz_fz⟩)) (fun _ => rfl) rfl) fz_ls sa_nil) rfl rfl (fun R hR => ⟨((true : Bool), (places).map (fun place => gi thing place)), rfl, q9, hR⟩)) fz_fz (fun p => (sg_pair (G' := [some (.fz ((eP D.int (eU (eP D.int D.int))) told)), some (.fz ((eU eF) thing)), none, some (tLs (eP D.int D.int) ties1), none, some (.fz ((eU D.int) places)), none, some (.fz (D.int p.1)), some (.fz (D.int p.2)), none]) (lt_l rfl) (lt_l rfl) rfl)) fun p h => ?_
      refine q_seq ?_
      refine p_if (st_val (sp_bin (sp_var_fz (i := 7) rfl) rd_fz (sp_var_fz (i := 8) rfl) rd_fz k_gt) rd_fz) (fun hb => ?_) (fun hb => ?_)
      · replace h := h.1 hb
        exact p_ret sp_con (hR _ h)
      · replace h := h.2 hb
        refine q_nextS ?_
        refine p_kill (G' := [some (.fz ((eP D.int (eU (eP D.int D.int))) told)), some (.fz ((eU eF) thing)), none, some (tLs (eP D.int D.int) ties1), none, none, none, none, none, none]) rfl ?_
        exact hC h
    exact p_ret sp_con (hR _ h)
theorem law__law_weighs : ∀ ts R, ts.length = 2 → F__law_weighs ts R → b__law_weighs ⟨fun G => R (G.take 0) (.fz .non), retW 0 R⟩ (ts.map some ++ List.replicate ((["_law_told", "_law_thing", "_law_one", "_law_ties", "_law_a", "_law_places", "_law_b", "_law_top", "_law_bottom", "_law_place"] : List Str).length - 2) none) := by
  rintro ts R hl ⟨told, thing, rfl, hp, q⟩
  exact sim__law_weighs _ R hl ⟨told, thing, fun r => r = weighsF told thing, rfl, spec__law_weighs hp rfl, fun r e => by subst e; exact q⟩
theorem ok__law_weighs {f : Addr} {fd : FuncData} (Fd : C8.Def K mg "_law_weighs" s__law_weighs f fd) (bd : Binds K fd ["_law_told", "_law_thing"] []) (h__law_fraction_is : Fn P w K mg base 1 "_law_fraction_is" 1 0 F__law_fraction_is) (h__law_tied : Fn P w K mg base 1 "_law_tied" 3 0 F__law_tied) (h__law_knots : Fn P w K mg base 1 "_law_knots" 1 0 F__law_knots) (h__law_total : Fn P w K mg base 1 "_law_total" 1 0 F__law_total) (T_isinstance : mg "isinstance" = none) (T_len : mg "len" = none) (T_range : mg "range" = none) (T_tuple : mg "tuple" = none) : Fn P w K mg base 2 "_law_weighs" 2 0 F__law_weighs := by
  refine fn_mk (body := b__law_weighs) Fd bd sc__law_weighs rfl (by decide) (fun cdv A outer s H E hgd hr => ?_) law__law_weighs
  have nd := sc__law_weighs.nd
  have hu64 := hr.units
  have hu65 := hu65 hr
  have hu1 := hu1 hr
  have hu2 := hu2 hr
  have hu0 := hr.units0
  exact (dss_cons (ds_if (DW.dt (dw_or (dt_not (dt_val (de_cb1c isinst_ok (by rfl) T_isinstance (by decide +kernel) (de_var (pv 1)) (pe_bltn (v := .ty "tuple") (by rfl) T_tuple (by decide +kernel) rfl) (fun _ => .opq)))) (dw_or1 (dt_cmp (ne_ok hu64) (nomark _) (de_cb1 len_ok (by rfl) T_len (by decide +kernel) (de_var (pv 1))) (de_ix hu1 (de_var (pv 0)) de_int (fun _ _ => rfl)))))) (dss_one (ds_ret de_bl)) dss_nil)
    (dss_cons (ds_for PassesOwn.never rfl (di_seq (de_var (pv 1))) (dg_name (i := 2) (pg_name (i := 2) nd rfl (.inl rfl)) (fun _ _ => take_set (by decide))) (dss_cons (ds_if (DW.dt (dw_or (dt_not (dt_val (de_call h__law_fraction_is hgd hr (by decide) (by rfl) (da_cons (de_var (pv 2)) da_nil)))) (dw_or1 (dt_cmp lt_ok (nomark _) (de_ix hu1 (de_var (pv 2)) de_int (fun _ _ => rfl)) de_int)))) (dss_one (ds_ret de_bl)) dss_nil)
    (dss_kill [2] dss_nil)))
    (dss_cons (ds_set (i := 3) nd rfl (.inl rfl) (de_lst da_nil) (by decide))
    (dss_cons (ds_for PassesOwn.never rfl (di_range1 (by rfl) T_range (da_consP (de_ix hu1 (de_var (pv 0)) de_int (fun _ _ => rfl)) da_nil)) (dg_name (i := 4) (pg_name (i := 4) nd rfl (.inl rfl)) (fun _ _ => take_set (by decide))) (dss_cons (ds_for PassesOwn.never rfl (di_range2 (by rfl) T_range (da_consP (de_bin add_ok (de_var (pv 4)) de_int) (da_consP (de_ix hu1 (de_var (pv 0)) de_int (fun _ _ => rfl)) da_nil))) (dg_name (i := 6) (pg_name (i := 6) nd rfl (.inl rfl)) (fun _ _ => take_set (by decide))) (dss_cons (ds_cut (ds_if (dt_not (dt_val (de_call h__law_tied hgd hr (by decide) (by rfl) (da_cons (de_var (pv 0)) (da_cons (de_var (pv 4)) (da_cons (de_var (pv 6)) da_nil)))))) (dss_cons (ds_expr (de_meth (by decide) PySem.F.plainAttrs_list PySem.F.slot_list_append PySem.F.type_list_append append_ok (de_var (pv 3)) (da_cons (de_tup (da_cons (de_var (pv 4)) (da_cons (de_var (pv 6)) da_nil))) da_nil)))
    dss_nil) dss_nil))
    (dss_kill [6] dss_nil)))
    (dss_kill [4] dss_nil)))
    (dss_cons (ds_for PassesOwn.never rfl (di_seq (de_callP h__law_knots hgd hr (by decide) (by rfl) (da_consP (de_tup (da_consP (de_ix hu1 (de_var (pv 0)) de_int (fun _ _ => rfl)) (da_consP (de_ct1 tuple_ok (by rfl) T_tuple (by decide +kernel) (de_var (pv 3))) da_nil))) da_nil))) (dg_name (i := 5) (pg_name (i := 5) nd rfl (.inl rfl)) (fun _ _ => take_set (by decide))) (dss_cons (ds_asg (de_call h__law_total hgd hr (by decide) (by rfl) (da_cons (de_lc (own := [("_law_place", 9)]) rfl nd (di_seq (de_var (pv 5))) (blkOk_by (N := ["_law_told", "_law_thing", "_law_one", "_law_ties", "_law_a", "_law_places", "_law_b", "_law_top", "_law_bottom", "_law_place"]) (sc := C8.fnScope s__law_weighs) (by decide +kernel)) (fun _ _ _ _ _ => (dg_name (i := 9) (pg_name (i := 9) nd rfl (by first | exact .inl rfl | exact .inr rfl)) (fun σ x => wipe_set x (by decide)))) (fun _ _ _ _ _ => dts_nil) (fun _ _ _ _ _ => (de_ix hu1 (de_var (pv 1)) (de_var (pv 9)) (fun _ _ => rfl)))) da_nil)) (dg_tup rfl (dgs_cons (dg_name (i := 7) (pg_name (i := 7) nd rfl (.inl rfl)) (fun _ _ => take_set (by decide))) (dgs_cons (dg_name (i := 8) (pg_name (i := 8) nd rfl (.inl rfl)) (fun _ _ => take_set (by decide))) dgs_nil))))
    (dss_cons (ds_if (dt_cmp gt_ok (nomark _) (de_var (pv 7)) (de_var (pv 8))) (dss_one (ds_ret de_bl)) dss_nil)
    (dss_kill [5, 7, 8] dss_nil))))
    (dss_one (ds_ret de_bl)))))))
abbrev s_law : Stmt := topS 31
theorem sc_law : FnScope ["script", "_law_pen", "_law_k", "_law_told", "_law_found", "_law_some", "_law_worth", "_law_cover", "_law_weights", "_law_top", "_law_bottom", "_law_one"] ["script"] (C8.fnScope s_law) := C8.fnScope_by (by decide +kernel)
def w_law (script : List Int) (Q : Bool → Prop) : Prop :=
  bnd ((⟨script, (0 : Int), (0 : Int)⟩ : PenN)) fun pen =>
  wFor1 (irange 0 (4 : Int)) pen (fun pen1 (k : Int) nx =>
  w__law_web pen1 (7 : Int) fun pen2 r_web =>
  w_shares r_web fun r_shares =>
  ((!true) = false → ((!decide ((3 : Int) = (3 : Int))) = false → (fracIsP ((r_shares.1, (), r_shares.2.2).1)))) ∧ wIf ((!true) || ((!decide ((3 : Int) = (3 : Int))) || (!(fracIsF ((r_shares.1, (), r_shares.2.2).1)))))
  (Q false)
  ((coversP r_web r_shares.2.1) ∧ ((!(coversF r_web r_shares.2.1)) = false → (weighsP r_web ((r_shares.1, (), r_shares.2.2).2.2))) ∧ wIf ((!(coversF r_web r_shares.2.1)) || (!(weighsF r_web ((r_shares.1, (), r_shares.2.2).2.2))))
  (Q false)
  (((r_shares.2.1).length ≤ 10000000) ∧ wFor0 ([((true : Bool), (r_shares.2.1).map (fun one => one.2)), ((false : Bool), (r_shares.1, (), r_shares.2.2).2.2)]) (fun (some_v : Bool × List (Int × Int)) nx =>
  (sumP some_v) ∧ bnd (sumF some_v) fun p =>
  (mulOk p.1 (((r_shares.1, (), r_shares.2.2).1).2)) ∧ (mulOk (((r_shares.1, (), r_shares.2.2).1).1) p.2) ∧ wIf (!decide (p.1 * (((r_shares.1, (), r_shares.2.2).1).2) = (((r_shares.1, (), r_shares.2.2).1).1) * p.2))
  (Q false)
  (nx))
  ((r_shares.2.1.length < 10000000) ∧ bnd (r_shares.2.1.map (eP (eU D.int) eF) ++ [D.non]) fun cover =>
  wJ1 (fun j1 =>
  w_shares r_web fun r_shares1 =>
  wIf (!decide (r_shares1.1 = (r_shares.1, (), r_shares.2.2).1))
  (j1 true)
  (w_shares r_web fun r_shares2 =>
  j1 false))
  (fun (z : Bool) =>
  wIf (z)
  (Q false)
  (nx pen2))))))
  (fun (pen1 : PenN) => Q true)
theorem spec_law {s : List Int} (hs : s.length ≤ 63) : w_law s fun r => r = true := by
  unfold w_law
  rintro _ rfl
  refine wFor1_z (by omega) (fun _ pen => NOk pen) ⟨Int.le_refl _, Int.le_refl _⟩ (fun _ _ => rfl) fun k pen C _ _ hp c => ?_
  refine spec__law_web hp (by omega) (by omega) fun pen w hp hw h7 => ?_
  refine spec_shares hw h7 fun x C W A => ?_
  have n0 := hw.n0
  have cl := A.clen
  have wl : W.length ≤ 7 := by have := A.wlen; omega
  refine ⟨fun _ _ => ⟨x, rfl⟩, fun hb => by simp [fracIsF] at hb, fun _ => ?_⟩
  refine ⟨⟨hw, by omega, C, rfl, by omega, A.cin, A.cov⟩, fun _ => ⟨hw, by omega, W, rfl, A.wlen, A.win, A.wap⟩, fun hb => by simp [coversF, weighsF] at hb, fun _ => ?_⟩
  refine ⟨by simp; omega, ?_⟩
  have both : ∀ (b : Bool) (l : List Rat), l.length ≤ 30 → (∀ y ∈ l, Sx.Sm 128 y) → sumR l = x → ∀ {P : Prop}, P → sumP (b, l.map qF) ∧ bnd (sumF (b, l.map qF)) fun p => mulOk p.1 (qF x).2 ∧ mulOk (qF x).1 p.2 ∧ wIf (!decide (p.1 * (qF x).2 = (qF x).1 * p.2)) ((false : Bool) = true) P := fun b l ll ls e {P} hP => by
    have sp := sumP_q (b := b) (k := 128) ls (by omega)
    refine ⟨sp, ?_⟩
    rintro _ rfl
    obtain ⟨s1, s2⟩ := sumF_q b l
    have lt := sum_lt (l.map qF)
    have sp : bitsL (l.map qF) ≤ 4500 := sp
    refine ⟨Sx.mulOk_sm lt.1 (j := (x.den : Int)) A.xs.2 (by omega) (by omega), Sx.mulOk_sm A.xs.1 lt.2 (by omega) (by omega), fun hb => ?_, fun _ => hP⟩
    have := (cross_eq s1 (qF_pos x)).mp (by rw [s2, toR_q, e])
    simp [this] at hb
  refine wFor0_inv (fun _ => True) trivial (fun _ => ?_) fun pre z post K e _ k => ?_
  · refine ⟨by simp; omega, ?_⟩
    rintro _ rfl
    refine ⟨fun z => z = false, ?_, ?_⟩
    · refine spec_shares hw h7 fun x' C' W' A' => ?_
      have ex : x' = x := sh_uniq A' A
      subst ex
      refine ⟨fun hb => by simp at hb, fun _ => ?_⟩
      exact spec_shares hw h7 fun x2 C2 W2 A2 => rfl
    · rintro _ rfl
      exact ⟨fun hb => by simp at hb, fun _ => c _ hp⟩
  · have mz : z ∈ [((true : Bool), (C.map fun p => (p.1, qF p.2)).map fun one => one.2), ((false : Bool), W.map qF)] := by rw [e]; simp
    rcases List.mem_cons.mp mz with rfl | mz
    · rw [show ((C.map fun p => (p.1, qF p.2)).map fun one : List Int × (Int × Int) => one.2) = (C.map (·.2)).map qF by rw [List.map_map, List.map_map]; rfl]
      exact both true _ (by rw [List.length_map]; omega) (fun y hy => by obtain ⟨p, hp, rfl⟩ := List.mem_map.mp hy; exact (A.cin p hp).2.2.2) A.cw (k trivial)
    · rw [List.mem_singleton.mp mz]
      exact both false _ (by omega) (fun y hy => (A.win y hy).2) A.ww (k trivial)
def b_law : DTS := (dSeq (dSet 1 (dLst (dACons (dVar 0) (dAConsP (dConst (.fz (.int 0))) (dAConsP (dConst (.fz (.int 0))) dNil)))))
    (dSeq (dFor (iRange1 (dAConsP (dConst (.fz (.int 4))) dNil)) (gN 2) (dSeq (dSet 3 (dCall 2 F__law_web (dALend 1 (dAConsP (dConst (.fz (.int 7))) dNil))))
    (dSeq (dSet 4 (dCall 1 F_shares (dACons (dVar 3) dNil)))
    (dSeq (dHideB 4 7 (dSeq (dIf (dOr (dNot (dVal (dCB1 (fun y R => isinstD [y, .opq (.ty "tuple")] R) (dVar 4)))) (dOr (dVal (dBin neD true (dCB1 (fun y R => lenD [y] R) (dVar 4)) (dConst (.fz (.int 3))))) (dNot (dVal (dCallP 1 F__law_fraction_is (dAConsP (dBin ixD true (dVar 4) (dConst (.fz (.int 0)))) dNil)))))) (dRet (dConst (.fz (.bl false)))) dNext)
    (dSeq (dAsg (dVar 4) (gT 3 (gsCons (gN 6) (gsCons (gN 7) (gsCons (gN 8) gsNil))))) dNext)))
    (dSeq (dKill [4]) (dSeq (dIf (dOr (dNot (dVal (dCallB 2 F__law_covers (dACons (dVar 3) (dALend 7 dNil))))) (dNot (dVal (dCall 2 F__law_weighs (dACons (dVar 3) (dACons (dVar 8) dNil)))))) (dRet (dConst (.fz (.bl false)))) dNext)
    (dSeq (dFor (iSeqD (dLst (dACons (dLcQ (dVar 7) (gN 11) dYes (dBin ixD true (dVar 11) (dConst (.fz (.int 1)))) [11]) (dACons (dVar 8) dNil)))) (gN 5) (dSeq (dAsg (dCall 1 F__law_total (dACons (dVar 5) dNil)) (gT 2 (gsCons (gN 9) (gsCons (gN 10) gsNil))))
    (dSeq (dIf (dVal (dBin neD true (dBin mulD true (dVar 9) (dBin ixD true (dVar 6) (dConst (.fz (.int 1))))) (dBin mulD true (dBin ixD true (dVar 6) (dConst (.fz (.int 0)))) (dVar 10)))) (dRet (dConst (.fz (.bl false)))) dNext)
    (dSeq (dKill [5, 9, 10]) dNext))))
    (dSeq (dExpr (dMeth "list" appendN true (dVar 7) (dAConsP (dConst (.fz .non)) dNil)))
    (dSeq (dIf (dOr (dVal (dBin neD true (dBin ixD true (dCall 1 F_shares (dACons (dVar 3) dNil)) (dConst (.fz (.int 0)))) (dVar 6))) (dVal (dBin (inD false) false (dConst (.fz .non)) (dBin ixD true (dCall 1 F_shares (dACons (dVar 3) dNil)) (dConst (.fz (.int 1))))))) (dRet (dConst (.fz (.bl false)))) dNext)
    (dSeq (dKill [2, 3, 6, 7, 8]) dNext))))))))))
    (dRet (dConst (.fz (.bl true))))))
set_option maxHeartbeats 4000000 in
theorem law_law : ∀ ts R, ts.length = 1 → F_law ts R → b_law ⟨fun G => R (G.take 0) (.fz .non), retW 0 R⟩ (ts.map some ++ List.replicate ((["script", "_law_pen", "_law_k", "_law_told", "_law_found", "_law_some", "_law_worth", "_law_cover", "_law_weights", "_law_top", "_law_bottom", "_law_one"] : List Str).length - 1) none) := by
  rintro ts R - ⟨script, rfl, hs, q⟩
  have hR : ∀ r, r = true → R [] (.fz (D.bl r)) := fun r e => by subst e; exact q
  have h : w_law script fun r => r = true := spec_law hs
  unfold w_law at h
  unfold b_law
  refine q_env (G2 := [some (.fz (D.scr script)), none, none, none, none, none, none, none, none, none, none, none]) rfl ?_
  refine p_setB (fun x => (x.T)) (G' := fun pen => [some (.fz (D.scr script)), some (pen.T), none, none, none, none, none, none, none, none, none, none]) h (sp_lst (sa_cons (sp_var_fz (i := 0) rfl) fz_fz (sa_consP sp_con fz_fz (sa_consP sp_con fz_fz sa_nil))) rfl (Nat.le_of_ble_eq_true rfl)) (lt_l rfl) (fun _ => rfl) fun pen h => ?_
  refine q_for1 D.int (fun (pen1 : PenN) => [some (.fz (D.scr script)), some (pen1.T), none, none, none, none, none, none, none, none, none, none]) (si_range1 (sa_consP sp_con fz_fz sa_nil) (by decide)) rfl h (fun pen1 k P C h hC => ?_) (fun pen1 h => ?_)
  · refine (sg_name (G' := [some (.fz (D.scr script)), some (pen1.T), some (.fz (D.int k)), none, none, none, none, none, none, none, none, none]) (lt_l rfl) rfl) _ ?_
    refine q_set ?_
    refine q_call ?_
    refine a_lend rfl ?_
    refine a_consP sp_con fz_fz ?_
    refine a_nil ?_
    refine c_fin1 (fun (p : PenN) => p.T) (fun (x : Int × (List (Int × Int))) => (.fz ((eP D.int (eU (eP D.int D.int))) x))) (fun (pp_ : PenN) => [some (.fz (D.scr script)), some (pp_.T), some (.fz (D.int k)), none, none, none, none, none, none, none, none, none]) rfl rfl (fun R hR => ⟨pen1, (7 : Int), _, rfl, h, hR⟩) (fun _ => rfl) (fun pen2 r_web h => ?_)
    refine w_set (G' := [some (.fz (D.scr script)), some (pen2.T), some (.fz (D.int k)), some (.fz ((eP D.int (eU (eP D.int D.int))) r_web)), none, none, none, none, none, none, none, none]) (lt_l rfl) rfl ?_
    refine q_set ?_
    refine q_call ?_
    refine a_cons (sp_var_fz (i := 3) rfl) fz_fz ?_
    refine a_nil ?_
    refine c_fin0 (fun (x : (Int × Int) × (List ((List Int) × (Int × Int))) × (List (Int × Int))) => (.tu [.fz (eF x.1), .ls (x.2.1.map (eP (eU D.int) eF)), .fz ((eU eF) x.2.2)])) rfl rfl (fun R hR => ⟨r_web, _, rfl, h, hR⟩) (fun r_shares h => ?_)
    refine w_set (G' := [some (.fz (D.scr script)), some (pen2.T), some (.fz (D.int k)), some (.fz ((eP D.int (eU (eP D.int D.int))) r_web)), some (.tu [.fz (eF r_shares.1), .ls (r_shares.2.1.map (eP (eU D.int) eF)), .fz ((eU eF) r_shares.2.2)]), none, none, none, none, none, none, none]) (lt_l rfl) rfl ?_
    refine p_hideB (i := 4) (j := 7) rfl (G' := fun qv_ => [some (.fz (D.scr script)), some (pen2.T), some (.fz (D.int k)), some (.fz ((eP D.int (eU (eP D.int D.int))) r_web)), some (.fz ((eP3 eF (fun (_ : Unit) => D.opq qv_) (eU eF)) (r_shares.1, (), r_shares.2.2))), none, none, none, none, none, none, none]) (fun qv_ => rfl) (fun qv_ => ?_)
    refine q_seq ?_
    obtain ⟨q3, h⟩ := h
    refine p_if (st_or (st_not (st_val (sp_cb1 (sp_var_fz (i := 4) rfl) rd_fz (k_isn (d := (eP3 eF (fun (_ : Unit) => D.opq qv_) (eU eF)) (r_shares.1, (), r_shares.2.2)) isi_tuple_tuple)) rd_fz)) (fun hb => (have q2 := q3 hb; (st_or (st_val (sp_bin (sp_cb1 (sp_var_fz (i := 4) rfl) rd_fz (k_lenP (n := 3) rfl)) rd_fz sp_con rd_fz (k_ne (a := (3 : Int)) (b := (3 : Int)) ok_int (Nat.le_of_ble_eq_true rfl))) rd_fz) (fun hb => (have q1 := q2 hb; (st_not (st_val (sp_callP (sa_consP (sp_bin (sp_var_fz (i := 4) rfl) rd_fz sp_con rd_fz k_ix0) fz_fz sa_nil) rfl rfl (fun R hR => ⟨((r_shares.1, (), r_shares.2.2).1), rfl, q1, hR⟩)) rd_fz)))))))) (fun hb => ?_) (fun hb => ?_)
    · replace h := h.1 hb
      exact p_ret sp_con (hR _ h)
    · replace h := h.2 hb
      refine q_nextS ?_
      refine p_asg (sp_var_fz (i := 4) rfl) fz_fz (sg_trip (G' := [some (.fz (D.scr script)), some (pen2.T), some (.fz (D.int k)), some (.fz ((eP D.int (eU (eP D.int D.int))) r_web)), some (.fz ((eP3 eF (fun (_ : Unit) => D.opq qv_) (eU eF)) (r_shares.1, (), r_shares.2.2))), none, some (.fz (eF ((r_shares.1, (), r_shares.2.2).1))), some (.fz ((fun (_ : Unit) => D.opq qv_) ((r_shares.1, (), r_shares.2.2).2.1))), some (.fz ((eU eF) ((r_shares.1, (), r_shares.2.2).2.2))), none, none, none]) (lt_l rfl) (lt_l rfl) (lt_l rfl) rfl) ?_
      refine w_hideB (j := 7) (G3 := [some (.fz (D.scr script)), some (pen2.T), some (.fz (D.int k)), some (.fz ((eP D.int (eU (eP D.int D.int))) r_web)), some (.fz ((eP3 eF (fun (_ : Unit) => D.opq qv_) (eU eF)) (r_shares.1, (), r_shares.2.2))), none, some (.fz (eF ((r_shares.1, (), r_shares.2.2).1))), some (tLs (eP (eU D.int) eF) r_shares.2.1), some (.fz ((eU eF) ((r_shares.1, (), r_shares.2.2).2.2))), none, none, none]) rfl rfl ?_
      refine p_kill (G' := [some (.fz (D.scr script)), some (pen2.T), some (.fz (D.int k)), some (.fz ((eP D.int (eU (eP D.int D.int))) r_web)), none, none, some (.fz (eF ((r_shares.1, (), r_shares.2.2).1))), some (tLs (eP (eU D.int) eF) r_shares.2.1), some (.fz ((eU eF) ((r_shares.1, (), r_shares.2.2).2.2))), none, none, none]) rfl ?_
      refine q_seq ?_
      obtain ⟨q4, q6, h⟩ := h
      refine p_if (st_or (st_not (st_val (sp_callB (sa_cons (sp_var_fz (i := 3) rfl) fz_fz (sa_lend (i := 7) rfl sa_nil)) rfl rfl rfl (fun R hR => ⟨r_web, r_shares.2.1, rfl, q4, hR⟩)) rd_fz)) (fun hb => (have q5 := q6 hb; (st_not (st_val (sp_call (sa_cons (sp_var_fz (i := 3) rfl) fz_fz (sa_cons (sp_var_fz (i := 8) rfl) fz_fz sa_nil)) rfl rfl (fun R hR => ⟨r_web, ((r_shares.1, (), r_shares.2.2).2.2), rfl, q5, hR⟩)) rd_fz))))) (fun hb => ?_) (fun hb => ?_)
      · replace h := h.1 hb
        exact p_ret sp_con (hR _ h)
      · replace h := h.2 hb
        refine q_nextS ?_
        obtain ⟨q7, h⟩ := h
        refine q_for0 (eLU eF) ([some (.fz (D.scr script)), some (pen2.T), some (.fz (D.int k)), some (.fz ((eP D.int (eU (eP D.int D.int))) r_web)), none, none, some (.fz (eF ((r_shares.1, (), r_shares.2.2).1))), some (tLs (eP (eU D.int) eF) r_shares.2.1), some (.fz ((eU eF) ((r_shares.1, (), r_shares.2.2).2.2))), none, none, none]) (si_seqL (sp_lst (sa_cons (sp_lcQ0 (eP (eU D.int) eF) (dcE (eP (eU D.int) eF)) (dcE_eq (ok_pair (ok_U ok_int) ok_fr)) (fun one => one.2) eF (fun one => [some (.fz (D.scr script)), some (pen2.T), some (.fz (D.int k)), some (.fz ((eP D.int (eU (eP D.int D.int))) r_web)), none, none, some (.fz (eF ((r_shares.1, (), r_shares.2.2).1))), some (tLs (eP (eU D.int) eF) r_shares.2.1), some (.fz ((eU eF) ((r_shares.1, (), r_shares.2.2).2.2))), none, none, some (.fz ((eP (eU D.int) eF) one))]) (sp_var (i := 7) rfl trivial) rfl (by decide) q7 (fun one hx => (sg_name (G' := [some (.fz (D.scr script)), some (pen2.T), some (.fz (D.int k)), some (.fz ((eP D.int (eU (eP D.int D.int))) r_web)), none, none, some (.fz (eF ((r_shares.1, (), r_shares.2.2).1))), some (tLs (eP (eU D.int) eF) r_shares.2.1), some (.fz ((eU eF) ((r_shares.1, (), r_shares.2.2).2.2))), none, none, some (.fz ((eP (eU D.int) eF) one))]) (lt_l rfl) rfl)) (fun _ => rfl) (fun _ => rfl) (fun one hx => (sp_bin (sp_var_fz (i := 11) rfl) rd_fz sp_con rd_fz k_ix1)) rfl) fz_ls (sa_cons (sp_var_fz (i := 8) rfl) fz_fz sa_nil)) rfl (Nat.le_of_ble_eq_true rfl)) fz_ls) rfl h (fun some_v P C h hC => ?_) (fun h => ?_)
        · refine (sg_name (G' := [some (.fz (D.scr script)), some (pen2.T), some (.fz (D.int k)), some (.fz ((eP D.int (eU (eP D.int D.int))) r_web)), none, some (.fz ((eLU eF) some_v)), some (.fz (eF ((r_shares.1, (), r_shares.2.2).1))), some (tLs (eP (eU D.int) eF) r_shares.2.1), some (.fz ((eU eF) ((r_shares.1, (), r_shares.2.2).2.2))), none, none, none]) (lt_l rfl) rfl) _ ?_
          obtain ⟨q8, h⟩ := h
          refine p_asgB (fun x => (eP D.int D.int) x) (G' := fun p => [some (.fz (D.scr script)), some (pen2.T), some (.fz (D.int k)), some (.fz ((eP D.int (eU (eP D.int D.int))) r_web)), none, some (.fz ((eLU eF) some_v)), some (.fz (eF ((r_shares.1, (), r_shares.2.2).1))), some (tLs (eP (eU D.int) eF) r_shares.2.1), some (.fz ((eU eF) ((r_shares.1, (), r_shares.2.2).2.2))), some (.fz (D.int p.1)), some (.fz (D.int p.2)), none]) h (sp_call (sa_cons (sp_var_fz (i := 5) rfl) fz_fz sa_nil) rfl rfl (fun R hR => ⟨some_v, rfl, q8, hR⟩)) fz_fz (fun p => (sg_pair (G' := [some (.fz (D.scr script)), some (pen2.T), some (.fz (D.int k)), some (.fz ((eP D.int (eU (eP D.int D.int))) r_web)), none, some (.fz ((eLU eF) some_v)), some (.fz (eF ((r_shares.1, (), r_shares.2.2).1))), some (tLs (eP (eU D.int) eF) r_shares.2.1), some (.fz ((eU eF) ((r_shares.1, (), r_shares.2.2).2.2))), some (.fz (D.int p.1)), some (.fz (D.int p.2)), none]) (lt_l rfl) (lt_l rfl) rfl)) fun p h => ?_
          refine q_seq ?_
          obtain ⟨q9, q10, h⟩ := h
          refine p_if (st_val (sp_bin (sp_bin (sp_var_fz (i := 9) rfl) rd_fz (sp_bin (sp_var_fz (i := 6) rfl) rd_fz sp_con rd_fz k_ixF1) rd_fz (k_mul q9)) rd_fz (sp_bin (sp_bin (sp_var_fz (i := 6) rfl) rd_fz sp_con rd_fz k_ixF0) rd_fz (sp_var_fz (i := 10) rfl) rd_fz (k_mul q10)) rd_fz (k_ne (a := p.1 * (((r_shares.1, (), r_shares.2.2).1).2)) (b := (((r_shares.1, (), r_shares.2.2).1).1) * p.2) ok_int (Nat.le_of_ble_eq_true rfl))) rd_fz) (fun hb => ?_) (fun hb => ?_)
          · replace h := h.1 hb
            exact p_ret sp_con (hR _ h)
          · replace h := h.2 hb
            refine q_nextS ?_
            refine p_kill (G' := [some (.fz (D.scr script)), some (pen2.T), some (.fz (D.int k)), some (.fz ((eP D.int (eU (eP D.int D.int))) r_web)), none, none, some (.fz (eF ((r_shares.1, (), r_shares.2.2).1))), some (tLs (eP (eU D.int) eF) r_shares.2.1), some (.fz ((eU eF) ((r_shares.1, (), r_shares.2.2).2.2))), none, none, none]) rfl ?_
            exact hC h
        obtain ⟨q11, h⟩ := h
        obtain ⟨cover, e_cover, h⟩ := h.get
        refine p_appAny (i := 7) (e := (eP (eU D.int) eF)) (m := r_shares.2.1) (x := D.non) rfl (sa_consP sp_con fz_fz sa_nil) q11 (G' := [some (.fz (D.scr script)), some (pen2.T), some (.fz (D.int k)), some (.fz ((eP D.int (eU (eP D.int D.int))) r_web)), none, none, some (.fz (eF ((r_shares.1, (), r_shares.2.2).1))), some (tLs eD cover), some (.fz ((eU eF) ((r_shares.1, (), r_shares.2.2).2.2))), none, none, none]) (by subst e_cover; rfl) ?_
        refine q_seq ?_
        refine q_if ?_
        obtain ⟨j1, h, hk⟩ := h
        refine x_joint0 ([some (.fz (D.scr script)), some (pen2.T), some (.fz (D.int k)), some (.fz ((eP D.int (eU (eP D.int D.int))) r_web)), none, none, some (.fz (eF ((r_shares.1, (), r_shares.2.2).1))), some (tLs eD cover), some (.fz ((eU eF) ((r_shares.1, (), r_shares.2.2).2.2))), none, none, none]) (J := j1) (fun hQ => ?_) (fun z h => ?_)
        · refine q_tor ?_
          refine q_val ?_
          refine q_bin ?_
          refine q_bin ?_
          refine q_call ?_
          refine a_cons (sp_var_fz (i := 3) rfl) fz_fz ?_
          refine a_nil ?_
          refine c_fin0 (fun (x : (Int × Int) × (List ((List Int) × (Int × Int))) × (List (Int × Int))) => (.tu [.fz (eF x.1), .ls (x.2.1.map (eP (eU D.int) eF)), .fz ((eU eF) x.2.2)])) rfl rfl (fun R hR => ⟨r_web, _, rfl, h, hR⟩) (fun r_shares1 h => ?_)
          refine w_bin1 fz_tu ?_
          refine sp_con _ ?_
          refine w_bin2 rd_fz k_ix0 ?_
          refine w_bin1 fz_fz ?_
          refine (sp_var_fz (i := 6) rfl) _ ?_
          refine w_bin2 rd_fz (k_ne (a := r_shares1.1) (b := (r_shares.1, (), r_shares.2.2).1) ok_fr (Nat.le_of_ble_eq_true rfl)) ?_
          refine w_val rd_fz ?_
          refine w_tori (fun hb => ?_) (fun hb => ?_)
          · replace h := h.1 hb
            exact hQ _ h
          · replace h := h.2 hb
            refine q_val ?_
            refine q_bin ?_
            refine sp_con _ ?_
            refine w_bin1 fz_fz ?_
            refine q_bin ?_
            refine q_call ?_
            refine a_cons (sp_var_fz (i := 3) rfl) fz_fz ?_
            refine a_nil ?_
            refine c_fin0 (fun (x : (Int × Int) × (List ((List Int) × (Int × Int))) × (List (Int × Int))) => (.tu [.fz (eF x.1), .ls (x.2.1.map (eP (eU D.int) eF)), .fz ((eU eF) x.2.2)])) rfl rfl (fun R hR => ⟨r_web, _, rfl, h, hR⟩) (fun r_shares2 h => ?_)
            refine w_bin1 fz_tu ?_
            refine sp_con _ ?_
            refine w_bin2 rd_fz k_ix1 ?_
            refine w_bin2 rd_fz (k_inN (e := (eP (eU D.int) eF)) (l := r_shares2.2.1) (b := false) (fun _ => rfl) rfl ((ok_L (ok_pair (ok_U ok_int) ok_fr)).shp (Nat.le_of_ble_eq_true rfl) r_shares2.2.1)) ?_
            refine w_val rd_fz ?_
            exact hQ _ h
        replace h := hk z h
        refine w_if (fun hb => ?_) (fun hb => ?_)
        · replace h := h.1 hb
          exact p_ret sp_con (hR _ h)
        · replace h := h.2 hb
          refine q_nextS ?_
          refine p_kill (G' := [some (.fz (D.scr script)), some (pen2.T), none, none, none, none, none, none, none, none, none, none]) rfl ?_
          exact hC _ h
  exact p_ret sp_con (hR _ h)
theorem ok_law {f : Addr} {fd : FuncData} (Fd : C8.Def K mg "law" s_law f fd) (h__law_web : Fn P w K mg base 3 "_law_web" 2 1 F__law_web) (h_shares : Fn P w K mg base 6 "shares" 1 0 F_shares) (h__law_fraction_is : Fn P w K mg base 1 "_law_fraction_is" 1 0 F__law_fraction_is) (h__law_covers : Fn P w K mg base 3 "_law_covers" 2 0 F__law_covers) (h__law_weighs : Fn P w K mg base 2 "_law_weighs" 2 0 F__law_weighs) (h__law_total : Fn P w K mg base 1 "_law_total" 1 0 F__law_total) (T_isinstance : mg "isinstance" = none) (T_len : mg "len" = none) (T_range : mg "range" = none) (T_tuple : mg "tuple" = none) : FnG P w K mg base 7 f fd ["script"] (spOf K 1 0 F_law) := by
  refine fnG_mk (body := b_law) Fd sc_law rfl (by decide) (fun cdv A outer s H E hgd hr => ?_) law_law
  have nd := sc_law.nd
  have hu64 := hr.units
  have hu65 := hu65 hr
  have hu1 := hu1 hr
  have hu2 := hu2 hr
  have hu0 := hr.units0
  exact (dss_cons (ds_set (i := 1) nd rfl (.inl rfl) (de_lst (da_cons (de_var (pv 0)) (da_consP de_int (da_consP de_int da_nil)))) (by decide))
    (dss_cons (ds_for PassesOwn.never rfl (di_range1 (by rfl) T_range (da_consP de_int da_nil)) (dg_name (i := 2) (pg_name (i := 2) nd rfl (.inl rfl)) (fun _ _ => take_set (by decide))) (dss_cons (ds_set (i := 3) nd rfl (.inl rfl) (de_call h__law_web hgd hr (by decide) (by rfl) (da_lend (pv 1) (da_consP de_int da_nil))) (by decide))
    (dss_cons (ds_set (i := 4) nd rfl (.inl rfl) (de_call h_shares hgd hr (by decide) (by rfl) (da_cons (de_var (pv 3)) da_nil)) (by decide))
    (dss_hide2 (i := 4) (j := 7) (ds_if (DW.dt (dw_or (dt_not (dt_val (de_cb1c isinst_ok (by rfl) T_isinstance (by decide +kernel) (de_var (pv 4)) (pe_bltn (v := .ty "tuple") (by rfl) T_tuple (by decide +kernel) rfl) (fun _ => .opq)))) (dw_or (dt_cmp (ne_ok hu64) (nomark _) (de_cb1 len_ok (by rfl) T_len (by decide +kernel) (de_var (pv 4))) de_int) (dw_or1 (dt_not (dt_val (de_callP h__law_fraction_is hgd hr (by decide) (by rfl) (da_consP (de_ix hu1 (de_var (pv 4)) de_int (fun _ _ => rfl)) da_nil)))))))) (dss_one (ds_ret de_bl)) dss_nil) (ds_asg (de_var (pv 4)) (dg_tup rfl (dgs_cons (dg_name (i := 6) (pg_name (i := 6) nd rfl (.inl rfl)) (fun _ _ => take_set (by decide))) (dgs_cons (dg_name (i := 7) (pg_name (i := 7) nd rfl (.inl rfl)) (fun _ _ => take_set (by decide))) (dgs_cons (dg_name (i := 8) (pg_name (i := 8) nd rfl (.inl rfl)) (fun _ _ => take_set (by decide))) dgs_nil)))))
    (dss_kill [4] (dss_cons (ds_if (DW.dt (dw_or (dt_not (dt_val (de_callB h__law_covers hgd hr (by decide) (by rfl) (da_cons (de_var (pv 3)) (da_lend (pv 7) da_nil))))) (dw_or1 (dt_not (dt_val (de_call h__law_weighs hgd hr (by decide) (by rfl) (da_cons (de_var (pv 3)) (da_cons (de_var (pv 8)) da_nil)))))))) (dss_one (ds_ret de_bl)) dss_nil)
    (dss_cons (ds_for PassesOwn.never rfl (di_seq (de_lst (da_cons (de_lcQ (own := [("_law_one", 11)]) rfl nd (de_var (pv 7)) (blkOk_by (N := ["script", "_law_pen", "_law_k", "_law_told", "_law_found", "_law_some", "_law_worth", "_law_cover", "_law_weights", "_law_top", "_law_bottom", "_law_one"]) (sc := C8.fnScope s_law) (by decide +kernel)) (fun _ _ _ _ _ => (dgk_name (i := 11) (pg_name (i := 11) nd rfl (by first | exact .inl rfl | exact .inr rfl)) (fun σ x => wipe_set x (by decide)))) (fun _ _ _ _ _ => dts_nil) (fun _ _ _ _ _ => (de_ix hu1 (de_var (pv 11)) de_int (fun _ _ => rfl)))) (da_cons (de_var (pv 8)) da_nil)))) (dg_name (i := 5) (pg_name (i := 5) nd rfl (.inl rfl)) (fun _ _ => take_set (by decide))) (dss_cons (ds_asg (de_call h__law_total hgd hr (by decide) (by rfl) (da_cons (de_var (pv 5)) da_nil)) (dg_tup rfl (dgs_cons (dg_name (i := 9) (pg_name (i := 9) nd rfl (.inl rfl)) (fun _ _ => take_set (by decide))) (dgs_cons (dg_name (i := 10) (pg_name (i := 10) nd rfl (.inl rfl)) (fun _ _ => take_set (by decide))) dgs_nil))))
    (dss_cons (ds_if (dt_cmp (ne_ok hu64) (nomark _) (de_bin mul_ok (de_var (pv 9)) (de_ix hu1 (de_var (pv 6)) de_int (fun _ _ => rfl))) (de_bin mul_ok (de_ix hu1 (de_var (pv 6)) de_int (fun _ _ => rfl)) (de_var (pv 10)))) (dss_one (ds_ret de_bl)) dss_nil)
    (dss_kill [5, 9, 10] dss_nil))))
    (dss_cons (ds_expr (de_meth (by decide) PySem.F.plainAttrs_list PySem.F.slot_list_append PySem.F.type_list_append append_ok (de_var (pv 7)) (da_consP de_non da_nil)))
    (dss_cons (ds_if (DW.dt (dw_or (dt_cmp (ne_ok hu64) (nomark _) (de_ix hu1 (de_call h_shares hgd hr (by decide) (by rfl) (da_cons (de_var (pv 3)) da_nil)) de_int (fun _ _ => rfl)) (de_var (pv 6))) (dw_or1 (dt_cmp (in_ok hu65) rfl de_non (de_ix hu1 (de_call h_shares hgd hr (by decide) (by rfl) (da_cons (de_var (pv 3)) da_nil)) de_int (fun _ _ => rfl)))))) (dss_one (ds_ret de_bl)) dss_nil)
    (dss_kill [2, 3, 6, 7, 8] dss_nil))))))))))
    (dss_one (ds_ret de_bl))))
end
set_option maxHeartbeats 20000000 in
theorem all_mk {l : PySem.W.OpenLaw} {w : World} {K : PySem.W.Frag} {h : Heap} {mg : Str → Option Value} {fa : Addr} {f1 f2 f3 f4 f5 f6 f7 f8 f9 f10 f11 f12 f13 f14 f15 f16 f17 f18 f19 f20 f21 f22 f23 f24 f25 f26 f27 : Addr} {od1 an1 od2 an2 od3 an3 od4 an4 od5 an5 od6 an6 od7 an7 od8 an8 od9 an9 od10 an10 od11 an11 od12 an12 od13 an13 od14 an14 od15 an15 od16 an16 od17 an17 od18 an18 od19 an19 od20 an20 od21 an21 od22 an22 od23 an23 od24 an24 od25 an25 od26 an26 od27 an27 : Option Addr} {sl1 sl2 sl3 sl4 sl5 sl6 sl7 sl8 sl9 sl10 sl11 sl12 sl13 sl14 sl15 sl16 sl17 sl18 sl19 sl20 sl21 sl22 sl23 sl24 sl25 sl26 sl27 : Array (Option Value)} {oc1 kV1 dc1 pm1 cd1 ct1 oc2 kV2 dc2 pm2 cd2 ct2 oc3 kV3 dc3 pm3 cd3 ct3 oc4 kV4 dc4 pm4 cd4 ct4 oc5 kV5 dc5 pm5 cd5 ct5 oc6 kV6 dc6 pm6 cd6 ct6 oc7 kV7 dc7 pm7 cd7 ct7 oc8 kV8 dc8 pm8 cd8 ct8 oc9 kV9 dc9 pm9 cd9 ct9 oc10 kV10 dc10 pm10 cd10 ct10 oc11 kV11 dc11 pm11 cd11 ct11 oc12 kV12 dc12 pm12 cd12 ct12 oc13 kV13 dc13 pm13 cd13 ct13 oc14 kV14 dc14 pm14 cd14 ct14 oc15 kV15 dc15 pm15 cd15 ct15 oc16 kV16 dc16 pm16 cd16 ct16 oc17 kV17 dc17 pm17 cd17 ct17 oc18 kV18 dc18 pm18 cd18 ct18 oc19 kV19 dc19 pm19 cd19 ct19 oc20 kV20 dc20 pm20 cd20 ct20 oc21 kV21 dc21 pm21 cd21 ct21 oc22 kV22 dc22 pm22 cd22 ct22 oc23 kV23 dc23 pm23 cd23 ct23 oc24 kV24 dc24 pm24 cd24 ct24 oc25 kV25 dc25 pm25 cd25 ct25 oc26 kV26 dc26 pm26 cd26 ct26 oc27 kV27 dc27 pm27 cd27 ct27 : Value} (X : K.In h) (G : h.Ns mainGlobals mg) (hfa : mg "law" = some (.ref fa)) {C_Table : Addr}
    (aC_Table : PySem.W.nsIn K mainGlobals "Table" = some (some (.ref C_Table))) (pg_Table : PySem.W.plainGet K C_Table Str.empty = true) (hd_Table : PySem.W.hasDictIn K C_Table = true) (po_Table : PySem.W.plainOver K C_Table = true) (sa_Table : PySem.W.findIn K (.ref C_Table) "__setattr__" = some (some (.builtin "object.__setattr__"))) (mk_Table : PySem.W.makesIn K C_Table = true) (kc_Table : PySem.W.keepIn K (.ref C_Table) = true) (nf_Table_held : PySem.W.findIn K (.ref C_Table) "held" = some none) (nf_Table_last : PySem.W.findIn K (.ref C_Table) "last" = some none) (nf_Table_many : PySem.W.findIn K (.ref C_Table) "many" = some none) (nf_Table_rows : PySem.W.findIn K (.ref C_Table) "rows" = some none)
    (a1 : PySem.W.nsIn K mainGlobals "all_near" = some (some (.ref f1))) (l1 : K.lookup f1 = some ⟨oc1, od1, .func (PySem.W.fnOf "all_near" "all_near" (C8.fnArgs s_all_near) (C8.fnBody s_all_near) (C8.fnScope s_all_near) .none kV1 dc1 pm1 an1 cd1 ct1), sl1⟩) (c1 : PySem.W.codeIn K cd1 "all_near" = true) (k1 : PySem.W.keepIn K (.ref f1) = true)
    (a2 : PySem.W.nsIn K mainGlobals "near" = some (some (.ref f2))) (l2 : K.lookup f2 = some ⟨oc2, od2, .func (PySem.W.fnOf "near" "near" (C8.fnArgs s_near) (C8.fnBody s_near) (C8.fnScope s_near) .none kV2 dc2 pm2 an2 cd2 ct2), sl2⟩) (c2 : PySem.W.codeIn K cd2 "near" = true) (k2 : PySem.W.keepIn K (.ref f2) = true)
    (a3 : PySem.W.nsIn K mainGlobals "turned" = some (some (.ref f3))) (l3 : K.lookup f3 = some ⟨oc3, od3, .func (PySem.W.fnOf "turned" "turned" (C8.fnArgs s_turned) (C8.fnBody s_turned) (C8.fnScope s_turned) .none kV3 dc3 pm3 an3 cd3 ct3), sl3⟩) (c3 : PySem.W.codeIn K cd3 "turned" = true) (k3 : PySem.W.keepIn K (.ref f3) = true)
    (a4 : PySem.W.nsIn K mainGlobals "grown" = some (some (.ref f4))) (l4 : K.lookup f4 = some ⟨oc4, od4, .func (PySem.W.fnOf "grown" "grown" (C8.fnArgs s_grown) (C8.fnBody s_grown) (C8.fnScope s_grown) .none kV4 dc4 pm4 an4 cd4 ct4), sl4⟩) (c4 : PySem.W.codeIn K cd4 "grown" = true) (k4 : PySem.W.keepIn K (.ref f4) = true)
    (a5 : PySem.W.nsIn K mainGlobals "full_knots" = some (some (.ref f5))) (l5 : K.lookup f5 = some ⟨oc5, od5, .func (PySem.W.fnOf "full_knots" "full_knots" (C8.fnArgs s_full_knots) (C8.fnBody s_full_knots) (C8.fnScope s_full_knots) .none kV5 dc5 pm5 an5 cd5 ct5), sl5⟩) (c5 : PySem.W.codeIn K cd5 "full_knots" = true) (k5 : PySem.W.keepIn K (.ref f5) = true)
    (a6 : PySem.W.nsIn K mainGlobals "fraction" = some (some (.ref f6))) (l6 : K.lookup f6 = some ⟨oc6, od6, .func (PySem.W.fnOf "fraction" "fraction" (C8.fnArgs s_fraction) (C8.fnBody s_fraction) (C8.fnScope s_fraction) .none kV6 dc6 pm6 an6 cd6 ct6), sl6⟩) (c6 : PySem.W.codeIn K cd6 "fraction" = true) (k6 : PySem.W.keepIn K (.ref f6) = true)
    (a7 : PySem.W.nsIn K mainGlobals "times" = some (some (.ref f7))) (l7 : K.lookup f7 = some ⟨oc7, od7, .func (PySem.W.fnOf "times" "times" (C8.fnArgs s_times) (C8.fnBody s_times) (C8.fnScope s_times) .none kV7 dc7 pm7 an7 cd7 ct7), sl7⟩) (c7 : PySem.W.codeIn K cd7 "times" = true) (k7 : PySem.W.keepIn K (.ref f7) = true)
    (a8 : PySem.W.nsIn K mainGlobals "minus" = some (some (.ref f8))) (l8 : K.lookup f8 = some ⟨oc8, od8, .func (PySem.W.fnOf "minus" "minus" (C8.fnArgs s_minus) (C8.fnBody s_minus) (C8.fnScope s_minus) .none kV8 dc8 pm8 an8 cd8 ct8), sl8⟩) (c8 : PySem.W.codeIn K cd8 "minus" = true) (k8 : PySem.W.keepIn K (.ref f8) = true)
    (a9 : PySem.W.nsIn K mainGlobals "over" = some (some (.ref f9))) (l9 : K.lookup f9 = some ⟨oc9, od9, .func (PySem.W.fnOf "over" "over" (C8.fnArgs s_over) (C8.fnBody s_over) (C8.fnScope s_over) .none kV9 dc9 pm9 an9 cd9 ct9), sl9⟩) (c9 : PySem.W.codeIn K cd9 "over" = true) (k9 : PySem.W.keepIn K (.ref f9) = true)
    (a10 : PySem.W.nsIn K mainGlobals "is_below" = some (some (.ref f10))) (l10 : K.lookup f10 = some ⟨oc10, od10, .func (PySem.W.fnOf "is_below" "is_below" (C8.fnArgs s_is_below) (C8.fnBody s_is_below) (C8.fnScope s_is_below) .none kV10 dc10 pm10 an10 cd10 ct10), sl10⟩) (c10 : PySem.W.codeIn K cd10 "is_below" = true) (k10 : PySem.W.keepIn K (.ref f10) = true)
    (a11 : PySem.W.nsIn K mainGlobals "taken_off" = some (some (.ref f11))) (l11 : K.lookup f11 = some ⟨oc11, od11, .func (PySem.W.fnOf "taken_off" "taken_off" (C8.fnArgs s_taken_off) (C8.fnBody s_taken_off) (C8.fnScope s_taken_off) .none kV11 dc11 pm11 an11 cd11 ct11), sl11⟩) (c11 : PySem.W.codeIn K cd11 "taken_off" = true) (k11 : PySem.W.keepIn K (.ref f11) = true)
    (a12 : PySem.W.findIn K (.ref C_Table) "__init__" = some (some (.ref f12))) (i12 : PySem.W.isFn K (.ref f12) = true) (l12 : K.lookup f12 = some ⟨oc12, od12, .func (PySem.W.fnOf "__init__" "Table.__init__" (C8.fnArgs s_Table___init__) (C8.fnBody s_Table___init__) (C8.fnScope s_Table___init__) .none kV12 dc12 pm12 an12 cd12 ct12), sl12⟩) (c12 : PySem.W.codeIn K cd12 "Table.__init__" = true) (k12 : PySem.W.keepIn K (.ref f12) = true)
    (a13 : PySem.W.findIn K (.ref C_Table) "leaving" = some (some (.ref f13))) (i13 : PySem.W.isFn K (.ref f13) = true) (l13 : K.lookup f13 = some ⟨oc13, od13, .func (PySem.W.fnOf "leaving" "Table.leaving" (C8.fnArgs s_Table_leaving) (C8.fnBody s_Table_leaving) (C8.fnScope s_Table_leaving) .none kV13 dc13 pm13 an13 cd13 ct13), sl13⟩) (c13 : PySem.W.codeIn K cd13 "Table.leaving" = true) (k13 : PySem.W.keepIn K (.ref f13) = true)
    (a14 : PySem.W.findIn K (.ref C_Table) "turn" = some (some (.ref f14))) (i14 : PySem.W.isFn K (.ref f14) = true) (l14 : K.lookup f14 = some ⟨oc14, od14, .func (PySem.W.fnOf "turn" "Table.turn" (C8.fnArgs s_Table_turn) (C8.fnBody s_Table_turn) (C8.fnScope s_Table_turn) .none kV14 dc14 pm14 an14 cd14 ct14), sl14⟩) (c14 : PySem.W.codeIn K cd14 "Table.turn" = true) (k14 : PySem.W.keepIn K (.ref f14) = true)
    (a15 : PySem.W.findIn K (.ref C_Table) "go" = some (some (.ref f15))) (i15 : PySem.W.isFn K (.ref f15) = true) (l15 : K.lookup f15 = some ⟨oc15, od15, .func (PySem.W.fnOf "go" "Table.go" (C8.fnArgs s_Table_go) (C8.fnBody s_Table_go) (C8.fnScope s_Table_go) .none kV15 dc15 pm15 an15 cd15 ct15), sl15⟩) (c15 : PySem.W.codeIn K cd15 "Table.go" = true) (k15 : PySem.W.keepIn K (.ref f15) = true)
    (a16 : PySem.W.nsIn K mainGlobals "shares" = some (some (.ref f16))) (l16 : K.lookup f16 = some ⟨oc16, od16, .func (PySem.W.fnOf "shares" "shares" (C8.fnArgs s_shares) (C8.fnBody s_shares) (C8.fnScope s_shares) .none kV16 dc16 pm16 an16 cd16 ct16), sl16⟩) (c16 : PySem.W.codeIn K cd16 "shares" = true) (k16 : PySem.W.keepIn K (.ref f16) = true)
    (a17 : PySem.W.nsIn K mainGlobals "_law_fill" = some (some (.ref f17))) (l17 : K.lookup f17 = some ⟨oc17, od17, .func (PySem.W.fnOf "_law_fill" "_law_fill" (C8.fnArgs s__law_fill) (C8.fnBody s__law_fill) (C8.fnScope s__law_fill) .none kV17 dc17 pm17 an17 cd17 ct17), sl17⟩) (c17 : PySem.W.codeIn K cd17 "_law_fill" = true) (k17 : PySem.W.keepIn K (.ref f17) = true)
    (a18 : PySem.W.nsIn K mainGlobals "_law_next" = some (some (.ref f18))) (l18 : K.lookup f18 = some ⟨oc18, od18, .func (PySem.W.fnOf "_law_next" "_law_next" (C8.fnArgs s__law_next) (C8.fnBody s__law_next) (C8.fnScope s__law_next) .none kV18 dc18 pm18 an18 cd18 ct18), sl18⟩) (c18 : PySem.W.codeIn K cd18 "_law_next" = true) (k18 : PySem.W.keepIn K (.ref f18) = true)
    (a19 : PySem.W.nsIn K mainGlobals "_law_web" = some (some (.ref f19))) (l19 : K.lookup f19 = some ⟨oc19, od19, .func (PySem.W.fnOf "_law_web" "_law_web" (C8.fnArgs s__law_web) (C8.fnBody s__law_web) (C8.fnScope s__law_web) .none kV19 dc19 pm19 an19 cd19 ct19), sl19⟩) (c19 : PySem.W.codeIn K cd19 "_law_web" = true) (k19 : PySem.W.keepIn K (.ref f19) = true)
    (a20 : PySem.W.nsIn K mainGlobals "_law_tied" = some (some (.ref f20))) (l20 : K.lookup f20 = some ⟨oc20, od20, .func (PySem.W.fnOf "_law_tied" "_law_tied" (C8.fnArgs s__law_tied) (C8.fnBody s__law_tied) (C8.fnScope s__law_tied) .none kV20 dc20 pm20 an20 cd20 ct20), sl20⟩) (c20 : PySem.W.codeIn K cd20 "_law_tied" = true) (k20 : PySem.W.keepIn K (.ref f20) = true)
    (a21 : PySem.W.nsIn K mainGlobals "_law_knots" = some (some (.ref f21))) (l21 : K.lookup f21 = some ⟨oc21, od21, .func (PySem.W.fnOf "_law_knots" "_law_knots" (C8.fnArgs s__law_knots) (C8.fnBody s__law_knots) (C8.fnScope s__law_knots) .none kV21 dc21 pm21 an21 cd21 ct21), sl21⟩) (c21 : PySem.W.codeIn K cd21 "_law_knots" = true) (k21 : PySem.W.keepIn K (.ref f21) = true)
    (a22 : PySem.W.nsIn K mainGlobals "_law_fraction_is" = some (some (.ref f22))) (l22 : K.lookup f22 = some ⟨oc22, od22, .func (PySem.W.fnOf "_law_fraction_is" "_law_fraction_is" (C8.fnArgs s__law_fraction_is) (C8.fnBody s__law_fraction_is) (C8.fnScope s__law_fraction_is) .none kV22 dc22 pm22 an22 cd22 ct22), sl22⟩) (c22 : PySem.W.codeIn K cd22 "_law_fraction_is" = true) (k22 : PySem.W.keepIn K (.ref f22) = true)
    (a23 : PySem.W.nsIn K mainGlobals "_law_total" = some (some (.ref f23))) (l23 : K.lookup f23 = some ⟨oc23, od23, .func (PySem.W.fnOf "_law_total" "_law_total" (C8.fnArgs s__law_total) (C8.fnBody s__law_total) (C8.fnScope s__law_total) .none kV23 dc23 pm23 an23 cd23 ct23), sl23⟩) (c23 : PySem.W.codeIn K cd23 "_law_total" = true) (k23 : PySem.W.keepIn K (.ref f23) = true)
    (a24 : PySem.W.nsIn K mainGlobals "_law_is_apart" = some (some (.ref f24))) (l24 : K.lookup f24 = some ⟨oc24, od24, .func (PySem.W.fnOf "_law_is_apart" "_law_is_apart" (C8.fnArgs s__law_is_apart) (C8.fnBody s__law_is_apart) (C8.fnScope s__law_is_apart) .none kV24 dc24 pm24 an24 cd24 ct24), sl24⟩) (c24 : PySem.W.codeIn K cd24 "_law_is_apart" = true) (k24 : PySem.W.keepIn K (.ref f24) = true)
    (a25 : PySem.W.nsIn K mainGlobals "_law_covers" = some (some (.ref f25))) (l25 : K.lookup f25 = some ⟨oc25, od25, .func (PySem.W.fnOf "_law_covers" "_law_covers" (C8.fnArgs s__law_covers) (C8.fnBody s__law_covers) (C8.fnScope s__law_covers) .none kV25 dc25 pm25 an25 cd25 ct25), sl25⟩) (c25 : PySem.W.codeIn K cd25 "_law_covers" = true) (k25 : PySem.W.keepIn K (.ref f25) = true)
    (a26 : PySem.W.nsIn K mainGlobals "_law_weighs" = some (some (.ref f26))) (l26 : K.lookup f26 = some ⟨oc26, od26, .func (PySem.W.fnOf "_law_weighs" "_law_weighs" (C8.fnArgs s__law_weighs) (C8.fnBody s__law_weighs) (C8.fnScope s__law_weighs) .none kV26 dc26 pm26 an26 cd26 ct26), sl26⟩) (c26 : PySem.W.codeIn K cd26 "_law_weighs" = true) (k26 : PySem.W.keepIn K (.ref f26) = true)
    (a27 : PySem.W.nsIn K mainGlobals "law" = some (some (.ref f27))) (l27 : K.lookup f27 = some ⟨oc27, od27, .func (PySem.W.fnOf "law" "law" (C8.fnArgs s_law) (C8.fnBody s_law) (C8.fnScope s_law) .none kV27 dc27 pm27 an27 cd27 ct27), sl27⟩) (c27 : PySem.W.codeIn K cd27 "law" = true) (k27 : PySem.W.keepIn K (.ref f27) = true) {ad_NONE : Addr} {td_NONE : Option Addr} {tn_NONE : Nat} {tk_NONE tj_NONE : Tok} {ts_NONE : Array (Option Value)} (z_NONE : PySem.W.nsIn K mainGlobals "NONE" = some (some (.ref ad_NONE))) (u_NONE : K.lookup ad_NONE = some ⟨.type "tuple", td_NONE, .seq #[.int (0) tk_NONE, .int (1) tj_NONE] tn_NONE, ts_NONE⟩) {ad_ONE : Addr} {td_ONE : Option Addr} {tn_ONE : Nat} {tk_ONE tj_ONE : Tok} {ts_ONE : Array (Option Value)} (z_ONE : PySem.W.nsIn K mainGlobals "ONE" = some (some (.ref ad_ONE))) (u_ONE : K.lookup ad_ONE = some ⟨.type "tuple", td_ONE, .seq #[.int (1) tk_ONE, .int (1) tj_ONE] tn_ONE, ts_ONE⟩) (z_abs : PySem.W.nsIn K mainGlobals "abs" = some none) (z_bool : PySem.W.nsIn K mainGlobals "bool" = some none) (z_enumerate : PySem.W.nsIn K mainGlobals "enumerate" = some none) (z_int : PySem.W.nsIn K mainGlobals "int" = some none) (z_isinstance : PySem.W.nsIn K mainGlobals "isinstance" = some none) (z_len : PySem.W.nsIn K mainGlobals "len" = some none) (z_list : PySem.W.nsIn K mainGlobals "list" = some none) (z_max : PySem.W.nsIn K mainGlobals "max" = some none) (z_min : PySem.W.nsIn K mainGlobals "min" = some none) (z_range : PySem.W.nsIn K mainGlobals "range" = some none) (z_sorted : PySem.W.nsIn K mainGlobals "sorted" = some none) (z_tuple : PySem.W.nsIn K mainGlobals "tuple" = some none) (z_zip : PySem.W.nsIn K mainGlobals "zip" = some none) :
    ∃ fd : FuncData, (∀ (s : Shared) (u : Value), BindsTo s fd ⟨[u], []⟩ [("script", u)]) ∧ ∀ base : Heap, K.In base → base.Ns mainGlobals mg → FnG l.prog w K mg base 7 fa fd ["script"] (spOf K 1 0 F_law) := by
  have e := hfa.symm.trans (PySem.W.mg_of X G a27)
  cases e
  have T_NONE : KPr K mg "NONE" (0) (1) := ⟨_, PySem.W.mg_of X G z_NONE, _, _, _, u_NONE, rfl, rfl, (show (2 : Nat) ≤ sizeLine by decide), .cons ⟨_, rfl⟩ (.cons ⟨_, rfl⟩ .nil)⟩
  have T_ONE : KPr K mg "ONE" (1) (1) := ⟨_, PySem.W.mg_of X G z_ONE, _, _, _, u_ONE, rfl, rfl, (show (2 : Nat) ≤ sizeLine by decide), .cons ⟨_, rfl⟩ (.cons ⟨_, rfl⟩ .nil)⟩
  have T_abs : mg "abs" = none := PySem.W.mg_none_of X G z_abs
  have T_bool : mg "bool" = none := PySem.W.mg_none_of X G z_bool
  have T_enumerate : mg "enumerate" = none := PySem.W.mg_none_of X G z_enumerate
  have T_int : mg "int" = none := PySem.W.mg_none_of X G z_int
  have T_isinstance : mg "isinstance" = none := PySem.W.mg_none_of X G z_isinstance
  have T_len : mg "len" = none := PySem.W.mg_none_of X G z_len
  have T_list : mg "list" = none := PySem.W.mg_none_of X G z_list
  have T_max : mg "max" = none := PySem.W.mg_none_of X G z_max
  have T_min : mg "min" = none := PySem.W.mg_none_of X G z_min
  have T_range : mg "range" = none := PySem.W.mg_none_of X G z_range
  have T_sorted : mg "sorted" = none := PySem.W.mg_none_of X G z_sorted
  have T_tuple : mg "tuple" = none := PySem.W.mg_none_of X G z_tuple
  have T_zip : mg "zip" = none := PySem.W.mg_none_of X G z_zip
  have cl_Table : Cls K C_Table := ⟨pg_Table, hd_Table, po_Table, sa_Table⟩
  have mgc_Table : mg "Table" = some (.ref C_Table) := PySem.W.mg_of X G aC_Table
  have L_Table_held : Fld K mg "Table" "held" := ⟨C_Table, mgc_Table, cl_Table, nf_Table_held⟩
  have L_Table_last : Fld K mg "Table" "last" := ⟨C_Table, mgc_Table, cl_Table, nf_Table_last⟩
  have L_Table_many : Fld K mg "Table" "many" := ⟨C_Table, mgc_Table, cl_Table, nf_Table_many⟩
  have L_Table_rows : Fld K mg "Table" "rows" := ⟨C_Table, mgc_Table, cl_Table, nf_Table_rows⟩
  have D1 : C8.Def K mg "all_near" s_all_near f1 _ := ⟨⟨_, _, _, _, _, _, _, _, _, _, rfl, l1, c1⟩, PySem.W.mg_of X G a1, k1⟩
  have B1 := D1.fn.binds rfl (ps := ["web"]) fun _ _ _ _ _ _ us hl => match us, hl with | [_], _ => rfl
  have D2 : C8.Def K mg "near" s_near f2 _ := ⟨⟨_, _, _, _, _, _, _, _, _, _, rfl, l2, c2⟩, PySem.W.mg_of X G a2, k2⟩
  have B2 := D2.fn.binds rfl (ps := ["web", "place"]) fun _ _ _ _ _ _ us hl => match us, hl with | [_, _], _ => rfl
  have D3 : C8.Def K mg "turned" s_turned f3 _ := ⟨⟨_, _, _, _, _, _, _, _, _, _, rfl, l3, c3⟩, PySem.W.mg_of X G a3, k3⟩
  have B3 := D3.fn.binds rfl (ps := ["web"]) fun _ _ _ _ _ _ us hl => match us, hl with | [_], _ => rfl
  have D4 : C8.Def K mg "grown" s_grown f4 _ := ⟨⟨_, _, _, _, _, _, _, _, _, _, rfl, l4, c4⟩, PySem.W.mg_of X G a4, k4⟩
  have B4 := D4.fn.binds rfl (ps := ["web"]) fun _ _ _ _ _ _ us hl => match us, hl with | [_], _ => rfl
  have D5 : C8.Def K mg "full_knots" s_full_knots f5 _ := ⟨⟨_, _, _, _, _, _, _, _, _, _, rfl, l5, c5⟩, PySem.W.mg_of X G a5, k5⟩
  have B5 := D5.fn.binds rfl (ps := ["web"]) fun _ _ _ _ _ _ us hl => match us, hl with | [_], _ => rfl
  have D6 : C8.Def K mg "fraction" s_fraction f6 _ := ⟨⟨_, _, _, _, _, _, _, _, _, _, rfl, l6, c6⟩, PySem.W.mg_of X G a6, k6⟩
  have B6 := D6.fn.binds rfl (ps := ["top", "bottom"]) fun _ _ _ _ _ _ us hl => match us, hl with | [_, _], _ => rfl
  have D7 : C8.Def K mg "times" s_times f7 _ := ⟨⟨_, _, _, _, _, _, _, _, _, _, rfl, l7, c7⟩, PySem.W.mg_of X G a7, k7⟩
  have B7 := D7.fn.binds rfl (ps := ["p", "q"]) fun _ _ _ _ _ _ us hl => match us, hl with | [_, _], _ => rfl
  have D8 : C8.Def K mg "minus" s_minus f8 _ := ⟨⟨_, _, _, _, _, _, _, _, _, _, rfl, l8, c8⟩, PySem.W.mg_of X G a8, k8⟩
  have B8 := D8.fn.binds rfl (ps := ["p", "q"]) fun _ _ _ _ _ _ us hl => match us, hl with | [_, _], _ => rfl
  have D9 : C8.Def K mg "over" s_over f9 _ := ⟨⟨_, _, _, _, _, _, _, _, _, _, rfl, l9, c9⟩, PySem.W.mg_of X G a9, k9⟩
  have B9 := D9.fn.binds rfl (ps := ["p", "q"]) fun _ _ _ _ _ _ us hl => match us, hl with | [_, _], _ => rfl
  have D10 : C8.Def K mg "is_below" s_is_below f10 _ := ⟨⟨_, _, _, _, _, _, _, _, _, _, rfl, l10, c10⟩, PySem.W.mg_of X G a10, k10⟩
  have B10 := D10.fn.binds rfl (ps := ["p", "q"]) fun _ _ _ _ _ _ us hl => match us, hl with | [_, _], _ => rfl
  have D11 : C8.Def K mg "taken_off" s_taken_off f11 _ := ⟨⟨_, _, _, _, _, _, _, _, _, _, rfl, l11, c11⟩, PySem.W.mg_of X G a11, k11⟩
  have B11 := D11.fn.binds rfl (ps := ["row", "rate", "other"]) fun _ _ _ _ _ _ us hl => match us, hl with | [_, _, _], _ => rfl
  have D12 : C8.Fun K "__init__" "Table.__init__" s_Table___init__ f12 _ := ⟨_, _, _, _, _, _, _, _, _, _, rfl, l12, c12⟩
  have B12 := D12.binds rfl (ps := ["self", "many", "sets"]) fun _ _ _ _ _ _ us hl => match us, hl with | [_, _, _], _ => rfl
  have M12 : Mk K C_Table f12 := ⟨mk_Table, a12, i12, kc_Table⟩
  have D13 : C8.Fun K "leaving" "Table.leaving" s_Table_leaving f13 _ := ⟨_, _, _, _, _, _, _, _, _, _, rfl, l13, c13⟩
  have B13 := D13.binds rfl (ps := ["self", "column"]) fun _ _ _ _ _ _ us hl => match us, hl with | [_, _], _ => rfl
  have M13 : Meth K C_Table "leaving" f13 := ⟨a13, i13, k13⟩
  have D14 : C8.Fun K "turn" "Table.turn" s_Table_turn f14 _ := ⟨_, _, _, _, _, _, _, _, _, _, rfl, l14, c14⟩
  have B14 := D14.binds rfl (ps := ["self", "column", "k"]) fun _ _ _ _ _ _ us hl => match us, hl with | [_, _, _], _ => rfl
  have M14 : Meth K C_Table "turn" f14 := ⟨a14, i14, k14⟩
  have D15 : C8.Fun K "go" "Table.go" s_Table_go f15 _ := ⟨_, _, _, _, _, _, _, _, _, _, rfl, l15, c15⟩
  have B15 := D15.binds rfl (ps := ["self"]) fun _ _ _ _ _ _ us hl => match us, hl with | [_], _ => rfl
  have M15 : Meth K C_Table "go" f15 := ⟨a15, i15, k15⟩
  have D16 : C8.Def K mg "shares" s_shares f16 _ := ⟨⟨_, _, _, _, _, _, _, _, _, _, rfl, l16, c16⟩, PySem.W.mg_of X G a16, k16⟩
  have B16 := D16.fn.binds rfl (ps := ["web"]) fun _ _ _ _ _ _ us hl => match us, hl with | [_], _ => rfl
  have D17 : C8.Def K mg "_law_fill" s__law_fill f17 _ := ⟨⟨_, _, _, _, _, _, _, _, _, _, rfl, l17, c17⟩, PySem.W.mg_of X G a17, k17⟩
  have B17 := D17.fn.binds rfl (ps := ["_law_cell", "_law_at"]) fun _ _ _ _ _ _ us hl => match us, hl with | [_, _], _ => rfl
  have D18 : C8.Def K mg "_law_next" s__law_next f18 _ := ⟨⟨_, _, _, _, _, _, _, _, _, _, rfl, l18, c18⟩, PySem.W.mg_of X G a18, k18⟩
  have B18 := D18.fn.binds rfl (ps := ["_law_pen", "_law_many"]) fun _ _ _ _ _ _ us hl => match us, hl with | [_, _], _ => rfl
  have D19 : C8.Def K mg "_law_web" s__law_web f19 _ := ⟨⟨_, _, _, _, _, _, _, _, _, _, rfl, l19, c19⟩, PySem.W.mg_of X G a19, k19⟩
  have B19 := D19.fn.binds rfl (ps := ["_law_pen", "_law_most"]) fun _ _ _ _ _ _ us hl => match us, hl with | [_, _], _ => rfl
  have D20 : C8.Def K mg "_law_tied" s__law_tied f20 _ := ⟨⟨_, _, _, _, _, _, _, _, _, _, rfl, l20, c20⟩, PySem.W.mg_of X G a20, k20⟩
  have B20 := D20.fn.binds rfl (ps := ["_law_web_here", "_law_a", "_law_b"]) fun _ _ _ _ _ _ us hl => match us, hl with | [_, _, _], _ => rfl
  have D21 : C8.Def K mg "_law_knots" s__law_knots f21 _ := ⟨⟨_, _, _, _, _, _, _, _, _, _, rfl, l21, c21⟩, PySem.W.mg_of X G a21, k21⟩
  have B21 := D21.fn.binds rfl (ps := ["_law_web_here"]) fun _ _ _ _ _ _ us hl => match us, hl with | [_], _ => rfl
  have D22 : C8.Def K mg "_law_fraction_is" s__law_fraction_is f22 _ := ⟨⟨_, _, _, _, _, _, _, _, _, _, rfl, l22, c22⟩, PySem.W.mg_of X G a22, k22⟩
  have B22 := D22.fn.binds rfl (ps := ["_law_one"]) fun _ _ _ _ _ _ us hl => match us, hl with | [_], _ => rfl
  have D23 : C8.Def K mg "_law_total" s__law_total f23 _ := ⟨⟨_, _, _, _, _, _, _, _, _, _, rfl, l23, c23⟩, PySem.W.mg_of X G a23, k23⟩
  have B23 := D23.fn.binds rfl (ps := ["_law_some"]) fun _ _ _ _ _ _ us hl => match us, hl with | [_], _ => rfl
  have D24 : C8.Def K mg "_law_is_apart" s__law_is_apart f24 _ := ⟨⟨_, _, _, _, _, _, _, _, _, _, rfl, l24, c24⟩, PySem.W.mg_of X G a24, k24⟩
  have B24 := D24.fn.binds rfl (ps := ["_law_told", "_law_places"]) fun _ _ _ _ _ _ us hl => match us, hl with | [_, _], _ => rfl
  have D25 : C8.Def K mg "_law_covers" s__law_covers f25 _ := ⟨⟨_, _, _, _, _, _, _, _, _, _, rfl, l25, c25⟩, PySem.W.mg_of X G a25, k25⟩
  have B25 := D25.fn.binds rfl (ps := ["_law_told", "_law_thing"]) fun _ _ _ _ _ _ us hl => match us, hl with | [_, _], _ => rfl
  have D26 : C8.Def K mg "_law_weighs" s__law_weighs f26 _ := ⟨⟨_, _, _, _, _, _, _, _, _, _, rfl, l26, c26⟩, PySem.W.mg_of X G a26, k26⟩
  have B26 := D26.fn.binds rfl (ps := ["_law_told", "_law_thing"]) fun _ _ _ _ _ _ us hl => match us, hl with | [_, _], _ => rfl
  have D27 : C8.Def K mg "law" s_law _ _ := ⟨⟨_, _, _, _, _, _, _, _, _, _, rfl, l27, c27⟩, PySem.W.mg_of X G a27, k27⟩
  refine ⟨PySem.W.fnOf "law" "law" (C8.fnArgs s_law) (C8.fnBody s_law) (C8.fnScope s_law) .none kV27 dc27 pm27 an27 cd27 ct27, fun s v => .of_eq rfl, fun base _ _ => ?_⟩
  have h_all_near := ok_all_near (P := l.prog) (w := w) (base := base) D1 B1 T_range
  have h_fraction := ok_fraction (P := l.prog) (w := w) (base := base) D6 B6 T_abs
  have h_is_below := ok_is_below (P := l.prog) (w := w) (base := base) D10 B10
  have h__law_fill := ok__law_fill (P := l.prog) (w := w) (base := base) D17 B17
  have h__law_tied := ok__law_tied (P := l.prog) (w := w) (base := base) D20 B20 T_max T_min
  have h__law_knots := ok__law_knots (P := l.prog) (w := w) (base := base) D21 B21 T_range
  have h__law_fraction_is := ok__law_fraction_is (P := l.prog) (w := w) (base := base) D22 B22 T_abs T_bool T_int T_isinstance T_len T_tuple
  have h__law_total := ok__law_total (P := l.prog) (w := w) (base := base) D23 B23
  have h_near := ok_near (P := l.prog) (w := w) (base := base) D2 B2 h_all_near T_sorted
  have h_turned := ok_turned (P := l.prog) (w := w) (base := base) D3 B3 h_all_near T_range T_tuple
  have h_times := ok_times (P := l.prog) (w := w) (base := base) D7 B7 h_fraction
  have h_minus := ok_minus (P := l.prog) (w := w) (base := base) D8 B8 h_fraction
  have h_over := ok_over (P := l.prog) (w := w) (base := base) D9 B9 h_fraction
  have h_Table___init__ := ok_Table___init__ (P := l.prog) (w := w) (base := base) mgc_Table M12 D12 B12 h_fraction L_Table_many L_Table_rows L_Table_last L_Table_held T_NONE T_ONE T_enumerate T_int T_len T_range
  have h__law_next := ok__law_next (P := l.prog) (w := w) (base := base) D18 B18 h__law_fill T_len
  have h__law_is_apart := ok__law_is_apart (P := l.prog) (w := w) (base := base) D24 B24 h__law_tied T_bool T_int T_isinstance T_len T_range T_tuple
  have h__law_weighs := ok__law_weighs (P := l.prog) (w := w) (base := base) D26 B26 h__law_fraction_is h__law_tied h__law_knots h__law_total T_isinstance T_len T_range T_tuple
  have h_grown := ok_grown (P := l.prog) (w := w) (base := base) D4 B4 h_near T_len T_list T_range
  have h_taken_off := ok_taken_off (P := l.prog) (w := w) (base := base) D11 B11 h_minus h_times T_zip
  have h_Table_leaving := ok_Table_leaving (P := l.prog) (w := w) (base := base) mgc_Table cl_Table M13 D13 B13 h_over h_is_below L_Table_rows L_Table_held T_enumerate
  have h__law_web := ok__law_web (P := l.prog) (w := w) (base := base) D19 B19 h__law_next T_range T_tuple
  have h__law_covers := ok__law_covers (P := l.prog) (w := w) (base := base) D25 B25 h__law_is_apart h__law_fraction_is h__law_total T_isinstance T_len T_list T_range T_tuple
  have h_full_knots := ok_full_knots (P := l.prog) (w := w) (base := base) D5 B5 h_grown T_sorted
  have h_Table_turn := ok_Table_turn (P := l.prog) (w := w) (base := base) mgc_Table cl_Table M14 D14 B14 h_over h_taken_off L_Table_rows L_Table_last L_Table_held T_len T_range
  have h_Table_go := ok_Table_go (P := l.prog) (w := w) (base := base) mgc_Table cl_Table M15 D15 B15 h_Table_turn h_Table_leaving L_Table_last T_enumerate
  have h_shares := ok_shares (P := l.prog) (w := w) (base := base) D16 B16 h_full_knots h_turned h_Table___init__ h_Table_go L_Table_held L_Table_rows L_Table_last T_NONE T_enumerate T_tuple
  exact ok_law D27 h__law_web h_shares h__law_fraction_is h__law_covers h__law_weighs h__law_total T_isinstance T_len T_range T_tuple
theorem walk {l : PySem.W.OpenLaw} {q : Program} {loose : List Str} {XP : (Str → Option Value) → Heap → Prop} {YP : World → Heap → Prop} {d : DefRec} {K : Params → PySem.W.Frag} (hn : l.most = some 63) (hdf : d.params.defaults = [])
    (hY : ∀ (w : World) (h : Heap), YP w h → (K w.params).In h)
    (F : ∀ (w : World) (mg : Str → Option Value) (fa : Addr) (h : Heap), (K w.params).In h → h.Ns mainGlobals mg → mg d.name = some (.ref fa) →
      ∃ fd : FuncData, (∀ (s : Shared) (u : Value), BindsTo s fd ⟨[u], []⟩ [("script", u)]) ∧ ∀ base : Heap, (K w.params).In base → base.Ns mainGlobals mg → FnG l.prog w (K w.params) mg base 7 fa fd ["script"] (spOf (K w.params) 1 0 F_law)) :
    PySem.W.WalkO q loose XP YP l.row.toRowW d [] (fun f vs => PySem.call f vs) :=
  walkG (sp := fun w => spOf (K w.params) 1 0 F_law) hn (by decide) hdf ⟨rfl, by decide, by decide⟩ hY F (fun _ _ _ _ hl _ sq => asks_true hl sq)
end TY
open PySem PySem.W PyProof.Rows
set_option maxRecDepth 100000 in
set_option maxHeartbeats 0 in
theorem PySem.Challenge.cw_tiefold_k26_shares_told_holds : PySem.Challenge.rw_tiefold_k26_shares_told.Holds := by
  w_on; o_law; k_head; (case hw => w_witness2)
  k_fill
  refine TY.walk (l := PySem.Challenge.rw_tiefold_k26_shares_told) rfl rfl (fun w h Y => PySem.W.kIn_of Y) ?F
  case F =>
    intro w mg fa h KX G hmg
    refine' TY.all_mk KX G hmg ?aC_Table ?pg_Table ?hd_Table ?po_Table ?sa_Table ?mk_Table ?kc_Table ?nf_Table_held ?nf_Table_last ?nf_Table_many ?nf_Table_rows ?a1 ?l1 ?c1 ?k1 ?a2 ?l2 ?c2 ?k2 ?a3 ?l3 ?c3 ?k3 ?a4 ?l4 ?c4 ?k4 ?a5 ?l5 ?c5 ?k5 ?a6 ?l6 ?c6 ?k6 ?a7 ?l7 ?c7 ?k7 ?a8 ?l8 ?c8 ?k8 ?a9 ?l9 ?c9 ?k9 ?a10 ?l10 ?c10 ?k10 ?a11 ?l11 ?c11 ?k11 ?a12 ?i12 ?l12 ?c12 ?k12 ?a13 ?i13 ?l13 ?c13 ?k13 ?a14 ?i14 ?l14 ?c14 ?k14 ?a15 ?i15 ?l15 ?c15 ?k15 ?a16 ?l16 ?c16 ?k16 ?a17 ?l17 ?c17 ?k17 ?a18 ?l18 ?c18 ?k18 ?a19 ?l19 ?c19 ?k19 ?a20 ?l20 ?c20 ?k20 ?a21 ?l21 ?c21 ?k21 ?a22 ?l22 ?c22 ?k22 ?a23 ?l23 ?c23 ?k23 ?a24 ?l24 ?c24 ?k24 ?a25 ?l25 ?c25 ?k25 ?a26 ?l26 ?c26 ?k26 ?a27 ?l27 ?c27 ?k27 ?u_NONE ?z_NONE ?u_ONE ?z_ONE ?z_abs ?z_bool ?z_enumerate ?z_int ?z_isinstance ?z_len ?z_list ?z_max ?z_min ?z_range ?z_sorted ?z_tuple ?z_zip
    (case aC_Table => k_is); (case pg_Table => k_is); (case hd_Table => k_is); (case po_Table => k_is)
    (case sa_Table => k_is); (case mk_Table => k_is); (case kc_Table => k_is); (case nf_Table_held => k_is)
    (case nf_Table_last => k_is); (case nf_Table_many => k_is); (case nf_Table_rows => k_is); (case a1 => k_is)
    (case l1 => k_is); (case c1 => k_is); (case k1 => k_is); (case a2 => k_is)
    (case l2 => k_is); (case c2 => k_is); (case k2 => k_is); (case a3 => k_is)
    (case l3 => k_is); (case c3 => k_is); (case k3 => k_is); (case a4 => k_is)
    (case l4 => k_is); (case c4 => k_is); (case k4 => k_is); (case a5 => k_is)
    (case l5 => k_is); (case c5 => k_is); (case k5 => k_is); (case a6 => k_is)
    (case l6 => k_is); (case c6 => k_is); (case k6 => k_is); (case a7 => k_is)
    (case l7 => k_is); (case c7 => k_is); (case k7 => k_is); (case a8 => k_is)
    (case l8 => k_is); (case c8 => k_is); (case k8 => k_is); (case a9 => k_is)
    (case l9 => k_is); (case c9 => k_is); (case k9 => k_is); (case a10 => k_is)
    (case l10 => k_is); (case c10 => k_is); (case k10 => k_is); (case a11 => k_is)
    (case l11 => k_is); (case c11 => k_is); (case k11 => k_is); (case a12 => k_is)
    (case i12 => k_is); (case l12 => k_is); (case c12 => k_is); (case k12 => k_is)
    (case a13 => k_is); (case i13 => k_is); (case l13 => k_is); (case c13 => k_is)
    (case k13 => k_is); (case a14 => k_is); (case i14 => k_is); (case l14 => k_is)
    (case c14 => k_is); (case k14 => k_is); (case a15 => k_is); (case i15 => k_is)
    (case l15 => k_is); (case c15 => k_is); (case k15 => k_is); (case a16 => k_is)
    (case l16 => k_is); (case c16 => k_is); (case k16 => k_is); (case a17 => k_is)
    (case l17 => k_is); (case c17 => k_is); (case k17 => k_is); (case a18 => k_is)
    (case l18 => k_is); (case c18 => k_is); (case k18 => k_is); (case a19 => k_is)
    (case l19 => k_is); (case c19 => k_is); (case k19 => k_is); (case a20 => k_is)
    (case l20 => k_is); (case c20 => k_is); (case k20 => k_is); (case a21 => k_is)
    (case l21 => k_is); (case c21 => k_is); (case k21 => k_is); (case a22 => k_is)
    (case l22 => k_is); (case c22 => k_is); (case k22 => k_is); (case a23 => k_is)
    (case l23 => k_is); (case c23 => k_is); (case k23 => k_is); (case a24 => k_is)
    (case l24 => k_is); (case c24 => k_is); (case k24 => k_is); (case a25 => k_is)
    (case l25 => k_is); (case c25 => k_is); (case k25 => k_is); (case a26 => k_is)
    (case l26 => k_is); (case c26 => k_is); (case k26 => k_is); (case a27 => k_is)
    (case l27 => k_is); (case c27 => k_is); (case k27 => k_is); (case u_NONE => k_is)
    (case z_NONE => k_is); (case u_ONE => k_is); (case z_ONE => k_is); (case z_abs => k_is)
    (case z_bool => k_is); (case z_enumerate => k_is); (case z_int => k_is); (case z_isinstance => k_is)
    (case z_len => k_is); (case z_list => k_is); (case z_max => k_is); (case z_min => k_is)
    (case z_range => k_is); (case z_sorted => k_is); (case z_tuple => k_is); (case z_zip => k_is)
