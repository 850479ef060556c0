import PyProof.Rows.All
import Wide.All
import OpenK.AllK
import Wide.FinOn
import HandS.ForMost
import HandS.Codes
import HandS.Zip
import HandS.Deep
import HandS.TupAny
import HandS.TupMul
import HandS.SortInts
import HandS.SortRule
import HandS.Wide
import HandS.IsInst
import HandS.TupLen
import HandS.Conv
import HandS.Flow
import HandS.More
import KE.KDictPairs
import HandS.Style
import HandS.SetFor
import PyProof.EnumMake
import PyProof.Draws
import PyProof.Rows.EnumRows
import HandS.SortKw
import KE.DataMinMax
import PySem.Challenge.RW_tiefold_k20_fewest_hues
set_option Elab.async false
set_option linter.all false
set_option maxRecDepth 100000
/-! The data layer: data D read in the abstract heap, owned trees T, environments, what stands between two steps. -/
namespace DL
open PySem PySem.Spec L2

/-- plain data -/
inductive D where
  | non | bl (b : Bool) | int (i : Int) | str (x : Str) | opq (v : V)
  | tup (l : List D) | lst (l : List D) | dK (l : List (Key × D)) | dT (l : List (List Key × D))
  /-- a list of ints that is read alone -/
  | scr (l : List Int)

mutual
inductive At (K : PySem.W.Frag) (h : Hp) : D → V → Prop
  | non : At K h .non .non
  | bl {b} : At K h (.bl b) (.bl b)
  | int {i} : At K h (.int i) (.int i)
  | str {x} : At K h (.str x) (.str x)
  | opq {v} : At K h (.opq v) v
  | tup {a ds vs} : h a = some (.tup vs) → Ats K h ds vs → At K h (.tup ds) (.ref a)
  | lst {a ds vs} : h a = some (.lst vs) → Ats K h ds vs → At K h (.lst ds) (.ref a)
  | scr {a ns} : SqL K h a (ns.map V.int) → At K h (.scr ns) (.ref a)
  | dK {a l m} : Rd h a (.dK m) → AtK K h l m → At K h (.dK l) (.ref a)
  | dT {a l m} : Rd h a (.dT m) → AtT K h l m → At K h (.dT l) (.ref a)
inductive Ats (K : PySem.W.Frag) (h : Hp) : List D → List V → Prop
  | nil : Ats K h [] []
  | cons {d ds v vs} : At K h d v → Ats K h ds vs → Ats K h (d :: ds) (v :: vs)
inductive AtK (K : PySem.W.Frag) (h : Hp) : List (Key × D) → List (Key × V) → Prop
  | nil : AtK K h [] []
  | cons {k d l v m} : At K h d v → AtK K h l m → AtK K h ((k, d) :: l) ((k, v) :: m)
inductive AtT (K : PySem.W.Frag) (h : Hp) : List (List Key × D) → List (List Key × V) → Prop
  | nil : AtT K h [] []
  | cons {k d l v m} : At K h d v → AtT K h l m → AtT K h ((k, d) :: l) ((k, v) :: m)
end

/-- an owned tree: its nodes may be written -/
inductive T where
  | fz (x : D) | ls (l : List D) | dk (l : List (Key × D)) | dt (l : List (List Key × D))
  | ll (l : List T) | dm (l : List (Key × T)) | ins (C : Addr) (fs : List (Str × T))

mutual
inductive Own (K : PySem.W.Frag) (h H : Hp) : T → V → List Addr → Prop
  | fz {x v} : At K h x v → Own K h H (.fz x) v []
  | ls {a ds vs} : h a = none → H a = some (.lst vs) → Ats K h ds vs → Own K h H (.ls ds) (.ref a) [a]
  | dk {a l m} : h a = none → H a = some (.dK m) → AtK K h l m → Own K h H (.dk l) (.ref a) [a]
  | dt {a l m} : h a = none → H a = some (.dT m) → AtT K h l m → Own K h H (.dt l) (.ref a) [a]
  | ll {a ts vs fp} : h a = none → H a = some (.lst vs) → Owns K h H ts vs fp → Own K h H (.ll ts) (.ref a) (a :: fp)
  | dm {a l m fp} : h a = none → H a = some (.dK m) → OwnK K h H l m fp → Own K h H (.dm l) (.ref a) (a :: fp)
  | ins {a dx C l m fp} : h a = none → h dx = none → H a = some (.ins C dx m) → H dx = some (.own a) → OwnF K h H l m fp → Own K h H (.ins C l) (.ref a) (a :: dx :: fp)
inductive Owns (K : PySem.W.Frag) (h H : Hp) : List T → List V → List Addr → Prop
  | nil : Owns K h H [] [] []
  | cons {t ts v vs f1 f2} : Own K h H t v f1 → Owns K h H ts vs f2 → Owns K h H (t :: ts) (v :: vs) (f1 ++ f2)
inductive OwnK (K : PySem.W.Frag) (h H : Hp) : List (Key × T) → List (Key × V) → List Addr → Prop
  | nil : OwnK K h H [] [] []
  | cons {k t ts v vs f1 f2} : Own K h H t v f1 → OwnK K h H ts vs f2 → OwnK K h H ((k, t) :: ts) ((k, v) :: vs) (f1 ++ f2)
inductive OwnF (K : PySem.W.Frag) (h H : Hp) : List (Str × T) → List (Str × V) → List Addr → Prop
  | nil : OwnF K h H [] [] []
  | cons {k t ts v vs f1 f2} : Own K h H t v f1 → OwnF K h H ts vs f2 → OwnF K h H ((k, t) :: ts) ((k, v) :: vs) (f1 ++ f2)
end

abbrev En := List (Option T)
inductive OwnE (K : PySem.W.Frag) (h H : Hp) : En → St → List Addr → Prop
  | nil : OwnE K h H [] [] []
  | no {G o σ fp} : OwnE K h H G σ fp → OwnE K h H (none :: G) (o :: σ) fp
  | so {G t v σ f1 f2} : Own K h H t v f1 → OwnE K h H G σ f2 → OwnE K h H (some t :: G) (some v :: σ) (f1 ++ f2)

/-! ### monotone -/
section
variable {K : PySem.W.Frag} {h h' H H' : Hp}
theorem rd_mono (s : Same h h') {a : Addr} {u : HO} (r : Rd h a u) : Rd h' a u := by
  rcases r with r | ⟨o, r⟩
  · exact .inl (s a _ r)
  · exact .inr ⟨o, s a _ r⟩
mutual
theorem At.mono (s : Same h h') : ∀ {d v}, At K h d v → At K h' d v
  | _, _, .non => .non
  | _, _, .bl => .bl
  | _, _, .int => .int
  | _, _, .str => .str
  | _, _, .opq => .opq
  | _, _, .tup e r => .tup (s _ _ e) (Ats.mono s r)
  | _, _, .lst e r => .lst (s _ _ e) (Ats.mono s r)
  | _, _, .scr e => .scr (s.seq e)
  | _, _, .dK e r => .dK (rd_mono s e) (AtK.mono s r)
  | _, _, .dT e r => .dT (rd_mono s e) (AtT.mono s r)
theorem Ats.mono (s : Same h h') : ∀ {d v}, Ats K h d v → Ats K h' d v
  | _, _, .nil => .nil
  | _, _, .cons a r => .cons (At.mono s a) (Ats.mono s r)
theorem AtK.mono (s : Same h h') : ∀ {d v}, AtK K h d v → AtK K h' d v
  | _, _, .nil => .nil
  | _, _, .cons a r => .cons (At.mono s a) (AtK.mono s r)
theorem AtT.mono (s : Same h h') : ∀ {d v}, AtT K h d v → AtT K h' d v
  | _, _, .nil => .nil
  | _, _, .cons a r => .cons (At.mono s a) (AtT.mono s r)
end
mutual
/-- the tree stays where its nodes stay -/
theorem Own.move (s : Same h h') : ∀ {t v fp}, Own K h H t v fp → (∀ a ∈ fp, H' a = H a) → (∀ a ∈ fp, h' a = none) → Own K h' H' t v fp
  | _, _, _, .fz x, _, _ => .fz (x.mono s)
  | _, _, _, .ls a b c, e, n => .ls (n _ (by simp)) ((e _ (by simp)).trans b) (c.mono s)
  | _, _, _, .dk a b c, e, n => .dk (n _ (by simp)) ((e _ (by simp)).trans b) (c.mono s)
  | _, _, _, .dt a b c, e, n => .dt (n _ (by simp)) ((e _ (by simp)).trans b) (c.mono s)
  | _, _, _, .ll a b c, e, n => .ll (n _ (by simp)) ((e _ (by simp)).trans b) (Owns.move s c (fun x hx => e x (by simp [hx])) (fun x hx => n x (by simp [hx])))
  | _, _, _, .dm a b c, e, n => .dm (n _ (by simp)) ((e _ (by simp)).trans b) (OwnK.move s c (fun x hx => e x (by simp [hx])) (fun x hx => n x (by simp [hx])))
  | _, _, _, .ins a a' b b' c, e, n => .ins (n _ (by simp)) (n _ (by simp)) ((e _ (by simp)).trans b) ((e _ (by simp)).trans b') (OwnF.move s c (fun x hx => e x (by simp [hx])) (fun x hx => n x (by simp [hx])))
theorem Owns.move (s : Same h h') : ∀ {t v fp}, Owns K h H t v fp → (∀ a ∈ fp, H' a = H a) → (∀ a ∈ fp, h' a = none) → Owns K h' H' t v fp
  | _, _, _, .nil, _, _ => .nil
  | _, _, _, .cons a r, e, n => .cons (Own.move s a (fun x hx => e x (by simp [hx])) (fun x hx => n x (by simp [hx]))) (Owns.move s r (fun x hx => e x (by simp [hx])) (fun x hx => n x (by simp [hx])))
theorem OwnK.move (s : Same h h') : ∀ {t v fp}, OwnK K h H t v fp → (∀ a ∈ fp, H' a = H a) → (∀ a ∈ fp, h' a = none) → OwnK K h' H' t v fp
  | _, _, _, .nil, _, _ => .nil
  | _, _, _, .cons a r, e, n => .cons (Own.move s a (fun x hx => e x (by simp [hx])) (fun x hx => n x (by simp [hx]))) (OwnK.move s r (fun x hx => e x (by simp [hx])) (fun x hx => n x (by simp [hx])))
theorem OwnF.move (s : Same h h') : ∀ {t v fp}, OwnF K h H t v fp → (∀ a ∈ fp, H' a = H a) → (∀ a ∈ fp, h' a = none) → OwnF K h' H' t v fp
  | _, _, _, .nil, _, _ => .nil
  | _, _, _, .cons a r, e, n => .cons (Own.move s a (fun x hx => e x (by simp [hx])) (fun x hx => n x (by simp [hx]))) (OwnF.move s r (fun x hx => e x (by simp [hx])) (fun x hx => n x (by simp [hx])))
end
theorem OwnE.move (s : Same h h') : ∀ {G σ fp}, OwnE K h H G σ fp → (∀ a ∈ fp, H' a = H a) → (∀ a ∈ fp, h' a = none) → OwnE K h' H' G σ fp
  | _, _, _, .nil, _, _ => .nil
  | _, _, _, .no r, e, n => .no (OwnE.move s r e n)
  | _, _, _, .so a r, e, n => .so (Own.move s a (fun x hx => e x (by simp [hx])) (fun x hx => n x (by simp [hx]))) (OwnE.move s r (fun x hx => e x (by simp [hx])) (fun x hx => n x (by simp [hx])))
mutual
/-- the nodes of a tree stand in H, not in h -/
theorem Own.there : ∀ {t v fp}, Own K h H t v fp → ∀ a ∈ fp, h a = none ∧ ∃ o, H a = some o
  | _, _, _, .fz _, _, m => nomatch m
  | _, _, _, .ls a b _, x, m => by simp only [List.mem_singleton] at m; subst m; exact ⟨a, _, b⟩
  | _, _, _, .dk a b _, x, m => by simp only [List.mem_singleton] at m; subst m; exact ⟨a, _, b⟩
  | _, _, _, .dt a b _, x, m => by simp only [List.mem_singleton] at m; subst m; exact ⟨a, _, b⟩
  | _, _, _, .ll a b c, x, m => by
    rcases List.mem_cons.mp m with rfl | m
    · exact ⟨a, _, b⟩
    · exact Owns.there c x m
  | _, _, _, .dm a b c, x, m => by
    rcases List.mem_cons.mp m with rfl | m
    · exact ⟨a, _, b⟩
    · exact OwnK.there c x m
  | _, _, _, .ins a a' b b' c, x, m => by
    rcases List.mem_cons.mp m with rfl | m
    · exact ⟨a, _, b⟩
    · rcases List.mem_cons.mp m with rfl | m
      · exact ⟨a', _, b'⟩
      · exact OwnF.there c x m
theorem Owns.there : ∀ {t v fp}, Owns K h H t v fp → ∀ a ∈ fp, h a = none ∧ ∃ o, H a = some o
  | _, _, _, .nil, _, m => nomatch m
  | _, _, _, .cons a r, x, m => by
    rcases List.mem_append.mp m with m | m
    · exact Own.there a x m
    · exact Owns.there r x m
theorem OwnK.there : ∀ {t v fp}, OwnK K h H t v fp → ∀ a ∈ fp, h a = none ∧ ∃ o, H a = some o
  | _, _, _, .nil, _, m => nomatch m
  | _, _, _, .cons a r, x, m => by
    rcases List.mem_append.mp m with m | m
    · exact Own.there a x m
    · exact OwnK.there r x m
theorem OwnF.there : ∀ {t v fp}, OwnF K h H t v fp → ∀ a ∈ fp, h a = none ∧ ∃ o, H a = some o
  | _, _, _, .nil, _, m => nomatch m
  | _, _, _, .cons a r, x, m => by
    rcases List.mem_append.mp m with m | m
    · exact Own.there a x m
    · exact OwnF.there r x m
end
theorem OwnE.there : ∀ {G σ fp}, OwnE K h H G σ fp → ∀ a ∈ fp, h a = none ∧ ∃ o, H a = some o
  | _, _, _, .nil, _, m => nomatch m
  | _, _, _, .no r, x, m => OwnE.there r x m
  | _, _, _, .so a r, x, m => by
    rcases List.mem_append.mp m with m | m
    · exact Own.there a x m
    · exact OwnE.there r x m
end

/-- what no owned node is: a locked thing, a tuple -/
def badN : HO → Bool
  | .frz _ _ => true
  | .tup _ => true
  | _ => false
section
variable {K : PySem.W.Frag} {h H : Hp}
theorem nb {a : Addr} {o u : HO} (b : H a = some o) (ho : badN o = false) (hu : badN u = true) : H a ≠ some u := fun e => by
  rw [b] at e; cases e; rw [ho] at hu; cases hu
mutual
theorem Own.nobad : ∀ {t : T} {v : V} {fp : List Addr}, Own K h H t v fp → ∀ a ∈ fp, ∀ u, badN u = true → H a ≠ some u
  | _, _, _, .fz _, _, m, _, _ => nomatch m
  | _, _, _, .ls _ b _, x, m, u, hu => by simp only [List.mem_singleton] at m; subst m; exact nb b rfl hu
  | _, _, _, .dk _ b _, x, m, u, hu => by simp only [List.mem_singleton] at m; subst m; exact nb b rfl hu
  | _, _, _, .dt _ b _, x, m, u, hu => by simp only [List.mem_singleton] at m; subst m; exact nb b rfl hu
  | _, _, _, .ll _ b c, x, m, u, hu => by
    rcases List.mem_cons.mp m with rfl | m
    · exact nb b rfl hu
    · exact Owns.nobad c x m u hu
  | _, _, _, .dm _ b c, x, m, u, hu => by
    rcases List.mem_cons.mp m with rfl | m
    · exact nb b rfl hu
    · exact OwnK.nobad c x m u hu
  | _, _, _, .ins _ _ b b' c, x, m, u, hu => by
    rcases List.mem_cons.mp m with rfl | m
    · exact nb b rfl hu
    · rcases List.mem_cons.mp m with rfl | m
      · exact nb b' rfl hu
      · exact OwnF.nobad c x m u hu
theorem Owns.nobad : ∀ {t : List T} {v : List V} {fp : List Addr}, Owns K h H t v fp → ∀ a ∈ fp, ∀ u, badN u = true → H a ≠ some u
  | _, _, _, .nil, _, m, _, _ => nomatch m
  | _, _, _, .cons a r, x, m, u, hu => by
    rcases List.mem_append.mp m with m | m
    · exact Own.nobad a x m u hu
    · exact Owns.nobad r x m u hu
theorem OwnK.nobad : ∀ {t : List (Key × T)} {v : List (Key × V)} {fp : List Addr}, OwnK K h H t v fp → ∀ a ∈ fp, ∀ u, badN u = true → H a ≠ some u
  | _, _, _, .nil, _, m, _, _ => nomatch m
  | _, _, _, .cons a r, x, m, u, hu => by
    rcases List.mem_append.mp m with m | m
    · exact Own.nobad a x m u hu
    · exact OwnK.nobad r x m u hu
theorem OwnF.nobad : ∀ {t : List (Str × T)} {v : List (Str × V)} {fp : List Addr}, OwnF K h H t v fp → ∀ a ∈ fp, ∀ u, badN u = true → H a ≠ some u
  | _, _, _, .nil, _, m, _, _ => nomatch m
  | _, _, _, .cons a r, x, m, u, hu => by
    rcases List.mem_append.mp m with m | m
    · exact Own.nobad a x m u hu
    · exact OwnF.nobad r x m u hu
end
theorem OwnE.nobad : ∀ {G : En} {σ : St} {fp : List Addr}, OwnE K h H G σ fp → ∀ a ∈ fp, ∀ u, badN u = true → H a ≠ some u
  | _, _, _, .nil, _, m, _, _ => nomatch m
  | _, _, _, .no r, x, m, u, hu => OwnE.nobad r x m u hu
  | _, _, _, .so a r, x, m, u, hu => by
    rcases List.mem_append.mp m with m | m
    · exact Own.nobad a x m u hu
    · exact OwnE.nobad r x m u hu
end
/-! ### frozen -/
mutual
/-- the data of a tree -/
def T.toD : T → D
  | .fz x => x
  | .ls l => .lst l
  | .dk l => .dK l
  | .dt l => .dT l
  | .ll l => .lst (T.toDs l)
  | .dm l => .dK (T.toDK l)
  | .ins _ _ => .non
def T.toDs : List T → List D
  | [] => []
  | t :: r => t.toD :: T.toDs r
def T.toDK : List (Key × T) → List (Key × D)
  | [] => []
  | (k, t) :: r => (k, t.toD) :: T.toDK r
end
mutual
/-- no instance within -/
def T.calm : T → Bool
  | .fz _ => true
  | .ls _ => true
  | .dk _ => true
  | .dt _ => true
  | .ll l => T.calms l
  | .dm l => T.calmK l
  | .ins _ _ => false
def T.calms : List T → Bool
  | [] => true
  | t :: r => t.calm && T.calms r
def T.calmK : List (Key × T) → Bool
  | [] => true
  | (_, t) :: r => t.calm && T.calmK r
end
/-- h with the nodes at fp as they stand in H -/
def froz (h H : Hp) (fp : List Addr) : Hp := fun a => if a ∈ fp then H a else h a
section
variable {K : PySem.W.Frag} {h h' H H' : Hp} {fp : List Addr}
theorem froz_in {a : Addr} (m : a ∈ fp) : froz h H fp a = H a := by unfold froz; rw [if_pos m]
theorem froz_out {a : Addr} (m : a ∉ fp) : froz h H fp a = h a := by unfold froz; rw [if_neg m]
theorem froz_same (n : ∀ a ∈ fp, h a = none) : Same h (froz h H fp) := fun a o e => by
  by_cases m : a ∈ fp
  · rw [n a m] at e; cases e
  · rw [froz_out m]; exact e
mutual
theorem Own.freeze (s : Same h h') : ∀ {t v fp}, Own K h H t v fp → (∀ a ∈ fp, h' a = H a) → t.calm = true → At K h' t.toD v
  | _, _, _, .fz x, _, _ => x.mono s
  | _, _, _, .ls a b c, e, _ => .lst ((e _ (by simp)).trans b) (c.mono s)
  | _, _, _, .dk a b c, e, _ => .dK (.inl ((e _ (by simp)).trans b)) (c.mono s)
  | _, _, _, .dt a b c, e, _ => .dT (.inl ((e _ (by simp)).trans b)) (c.mono s)
  | _, _, _, .ll a b c, e, n => .lst ((e _ (by simp)).trans b) (Owns.freeze s c (fun x hx => e x (by simp [hx])) n)
  | _, _, _, .dm a b c, e, n => .dK (.inl ((e _ (by simp)).trans b)) (OwnK.freeze s c (fun x hx => e x (by simp [hx])) n)
  | _, _, _, .ins .., _, n => nomatch n
theorem Owns.freeze (s : Same h h') : ∀ {t v fp}, Owns K h H t v fp → (∀ a ∈ fp, h' a = H a) → T.calms t = true → Ats K h' (T.toDs t) v
  | _, _, _, .nil, _, _ => .nil
  | _, _, _, .cons a r, e, n => by
    simp only [T.calms, Bool.and_eq_true] at n
    exact .cons (Own.freeze s a (fun x hx => e x (by simp [hx])) n.1) (Owns.freeze s r (fun x hx => e x (by simp [hx])) n.2)
theorem OwnK.freeze (s : Same h h') : ∀ {t v fp}, OwnK K h H t v fp → (∀ a ∈ fp, h' a = H a) → T.calmK t = true → AtK K h' (T.toDK t) v
  | _, _, _, .nil, _, _ => .nil
  | _, _, _, .cons a r, e, n => by
    simp only [T.calmK, Bool.and_eq_true] at n
    exact .cons (Own.freeze s a (fun x hx => e x (by simp [hx])) n.1) (OwnK.freeze s r (fun x hx => e x (by simp [hx])) n.2)
end
end

/-! ### the state -/
def isDic : HO → Bool
  | .dK _ => true
  | .dT _ => true
  | _ => false
/-- h's objects stand in H (a dict perhaps locked) -/
def Sub (h H : Hp) : Prop := ∀ a o, h a = some o → H a = some o ∨ (isDic o = true ∧ ∃ ob, H a = some (.frz ob o))
theorem Sub.of {h H : Hp} (s : Same h H) : Sub h H := fun a o e => .inl (s a o e)
theorem Sub.refl (h : Hp) : Sub h h := fun _ _ e => .inl e
theorem Sub.rd {h H : Hp} (s : Sub h H) {a : Addr} {u : HO} (r : Rd h a u) : Rd H a u := by
  rcases r with r | ⟨o, r⟩
  · rcases s a u r with q | ⟨_, ob, q⟩
    · exact .inl q
    · exact .inr ⟨ob, q⟩
  · rcases s a _ r with q | ⟨q, _⟩
    · exact .inr ⟨o, q⟩
    · cases q
theorem Sub.tup {h H : Hp} (s : Sub h H) {a : Addr} {vs : List V} (r : h a = some (.tup vs)) : H a = some (.tup vs) := by
  rcases s a _ r with q | ⟨q, _⟩
  · exact q
  · cases q
theorem Sub.lst {h H : Hp} (s : Sub h H) {a : Addr} {vs : List V} (r : h a = some (.lst vs)) : H a = some (.lst vs) := by
  rcases s a _ r with q | ⟨q, _⟩
  · exact q
  · cases q
theorem Sub.sql {K : PySem.W.Frag} {h H : Hp} (s : Sub h H) {a : Addr} {vs : List V} (r : SqL K h a vs) : SqL K H a vs := by
  rcases r with r | r
  · exact .inl (s.rd r)
  · exact .inr r
theorem Sub.trans {h H H' : Hp} (s : Sub h H) (t : Sub H H') : Sub h H' := fun a o e => by
  rcases s a o e with q | ⟨d, ob, q⟩
  · exact t a o q
  · rcases t a _ q with r | ⟨r, _⟩
    · exact .inr ⟨d, ob, r⟩
    · cases r
theorem Sub.there {h H : Hp} (s : Sub h H) {a : Addr} {o : HO} (e : h a = some o) : ∃ u, H a = some u := by
  rcases s a o e with q | ⟨_, ob, q⟩
  · exact ⟨_, q⟩
  · exact ⟨_, q⟩
mutual
theorem At.sub {K : PySem.W.Frag} {h H : Hp} (s : Sub h H) : ∀ {d v}, At K h d v → At K H d v
  | _, _, .non => .non
  | _, _, .bl => .bl
  | _, _, .int => .int
  | _, _, .str => .str
  | _, _, .opq => .opq
  | _, _, .tup e r => .tup (s.tup e) (Ats.sub s r)
  | _, _, .lst e r => .lst (s.lst e) (Ats.sub s r)
  | _, _, .scr e => .scr (s.sql e)
  | _, _, .dK e r => .dK (s.rd e) (AtK.sub s r)
  | _, _, .dT e r => .dT (s.rd e) (AtT.sub s r)
theorem Ats.sub {K : PySem.W.Frag} {h H : Hp} (s : Sub h H) : ∀ {d v}, Ats K h d v → Ats K H d v
  | _, _, .nil => .nil
  | _, _, .cons a r => .cons (At.sub s a) (Ats.sub s r)
theorem AtK.sub {K : PySem.W.Frag} {h H : Hp} (s : Sub h H) : ∀ {d v}, AtK K h d v → AtK K H d v
  | _, _, .nil => .nil
  | _, _, .cons a r => .cons (At.sub s a) (AtK.sub s r)
theorem AtT.sub {K : PySem.W.Frag} {h H : Hp} (s : Sub h H) : ∀ {d v}, AtT K h d v → AtT K H d v
  | _, _, .nil => .nil
  | _, _, .cons a r => .cons (At.sub s a) (AtT.sub s r)
end

structure Stt (K : PySem.W.Frag) (h H : Hp) (G : En) (σ : St) (fp : List Addr) : Prop where
  sub : Sub h H
  env : OwnE K h H G σ fp
  nd : fp.Nodup
/-- from (h, H, fp) to (h', H', fp'): the frozen part grows, what isn't owned stays, new nodes are new -/
def Frs (H : Hp) (a : Addr) : Prop := H a = none ∨ ∃ vs, H a = some (.tup vs)
structure Ext (h H : Hp) (fp : List Addr) (h' H' : Hp) (fp' : List Addr) : Prop where
  gh : Same h h'
  fr : ∀ a o, a ∉ fp → H a = some o → H' a = some o ∨ (isDic o = true ∧ (∃ ob, H' a = some (.frz ob o)) ∧ ∃ u, h' a = some u)
  nw : ∀ a, a ∈ fp' → a ∈ fp ∨ H a = none
  hn : ∀ a o, h' a = some o → h a = some o ∨ a ∈ fp ∨ Frs H a
theorem Ext.refl (h H : Hp) (fp : List Addr) : Ext h H fp h H fp := ⟨Same.refl h, fun _ _ _ e => .inl e, fun _ m => .inl m, fun _ _ e => .inl e⟩
theorem Ext.trans {h H h1 H1 h2 H2 : Hp} {fp f1 f2 : List Addr} (a : Ext h H fp h1 H1 f1) (b : Ext h1 H1 f1 h2 H2 f2) : Ext h H fp h2 H2 f2 where
  gh := a.gh.trans b.gh
  fr := fun x o hx e => by
    have hx1 : x ∉ f1 := fun m => by
      rcases a.nw x m with q | q
      · exact hx q
      · rw [q] at e; cases e
    rcases a.fr x o hx e with q | ⟨d, ⟨ob, q⟩, u, hu⟩
    · exact b.fr x o hx1 q
    · rcases b.fr x _ hx1 q with r | ⟨z, _⟩
      · exact .inr ⟨d, ⟨ob, r⟩, u, b.gh x u hu⟩
      · cases z
  nw := fun x m => by
    rcases b.nw x m with q | q
    · exact a.nw x q
    · by_cases hx : x ∈ fp
      · exact .inl hx
      · cases e : H x with
        | none => exact .inr rfl
        | some o => rcases a.fr x o hx e with r | ⟨_, ⟨_, r⟩, _⟩ <;> (rw [r] at q; cases q)
  hn := fun x o e => by
    rcases b.hn x o e with q | q | q
    · exact a.hn x o q
    · exact .inr ((a.nw x q).imp id .inl)
    · by_cases hx : x ∈ fp
      · exact .inr (.inl hx)
      · cases e2 : H x with
        | none => exact .inr (.inr (.inl e2))
        | some u =>
          rcases q with q | ⟨vs, q⟩
          · rcases a.fr x u hx e2 with r | ⟨_, ⟨_, r⟩, _⟩ <;> (rw [r] at q; cases q)
          · rcases a.fr x u hx e2 with r | ⟨_, ⟨_, r⟩, _⟩
            · rw [r] at q; cases q; exact .inr (.inr (.inr ⟨vs, e2⟩))
            · rw [r] at q; cases q
theorem Frs.no {H : Hp} {a : Addr} {u : HO} (r : Frs H a) (e : H a = some u) (n : ∀ w, badN w = true → H a ≠ some w) : False := by
  rcases r with r | ⟨vs, r⟩
  · rw [e] at r; cases r
  · exact n _ rfl r
theorem Ext.stay {h H h1 H1 : Hp} {fp f1 : List Addr} (a : Ext h H fp h1 H1 f1) {x : Addr} {o : HO} (n : h1 x = none) (hx : x ∉ fp) (e : H x = some o) : H1 x = some o := by
  rcases a.fr x o hx e with q | ⟨_, _, u, hu⟩
  · exact q
  · rw [n] at hu; cases hu
theorem Ext.sub {h H h1 H1 : Hp} {fp f1 : List Addr} (a : Ext h H fp h1 H1 f1) (k : ∀ x ∈ fp, H1 x = H x) : Sub H H1 := fun x o e => by
  by_cases m : x ∈ fp
  · exact .inl (by rw [k x m]; exact e)
  · rcases a.fr x o m e with q | ⟨d, q, _⟩
    · exact .inl q
    · exact .inr ⟨d, q⟩
theorem Ext.weak {h H h1 H1 : Hp} {fp f1 f2 : List Addr} (a : Ext h H fp h1 H1 f1) (s : ∀ x ∈ f2, x ∈ f1) : Ext h H fp h1 H1 f2 :=
  ⟨a.gh, a.fr, fun x m => a.nw x (s x m), a.hn⟩
end DL

/-! Places in an environment, values on the way, the judgements over data. -/
namespace DL
open PySem PySem.Spec L2

def look {κ α : Type} [DecidableEq κ] : List (κ × α) → κ → Option α
  | [], _ => none
  | (k', v) :: r, k => if k' = k then some v else look r k
def setL {κ α : Type} [DecidableEq κ] : List (κ × α) → κ → α → List (κ × α)
  | [], _, _ => []
  | (k', v) :: r, k, x => if k' = k then (k', x) :: r else (k', v) :: setL r k x

inductive Stp where
  | ix (k : Nat) | ky (k : Key) | fd (f : Str)
/-- a value on the way: a tree of its own, or what stands at a place of the environment -/
inductive Vl where
  | t (t : T) | pk (i : Nat) (p : Option Stp)

def T.kid : T → Stp → Option T
  | .ll l, .ix k => l[k]?
  | .dm l, .ky k => look l k
  | .ins _ l, .fd f => look l f
  | _, _ => none
def T.setKid : T → Stp → T → T
  | .ll l, .ix k, t => .ll (l.set k t)
  | .dm l, .ky k, t => .dm (setL l k t)
  | .ins C l, .fd f, t => .ins C (setL l f t)
  | t, _, _ => t
def atE (G : En) (i : Nat) (p : Option Stp) : Option T :=
  match G[i]? with
  | some (some t) => (match p with | none => some t | some s => t.kid s)
  | _ => none
def setE (G : En) (i : Nat) (p : Option Stp) (t' : T) : En :=
  match p with
  | none => G.set i (some t')
  | some s => (match G[i]? with | some (some t) => G.set i (some (t.setKid s t')) | _ => G)

def Phys (H : Hp) (s : Stp) (v vc : V) : Prop := ∃ a, v = .ref a ∧ match s with
  | .ix k => ∃ vs, H a = some (.lst vs) ∧ vs[k]? = some vc
  | .ky k => ∃ m, H a = some (.dK m) ∧ look m k = some vc
  | .fd f => ∃ C dx m, H a = some (.ins C dx m) ∧ look m f = some vc
def LocV (H : Hp) (σ : L2.St) (i : Nat) (p : Option Stp) (v : V) : Prop := ∃ v0, σ[i]? = some (some v0) ∧ match p with
  | none => v = v0
  | some s => Phys H s v0 v

section
variable {K : PySem.W.Frag} {h H h' H' : Hp}
/-- a part of a tree list, and what may be put there -/
theorem Owns.at : ∀ {ts : List T} {vs : List V} {fp : List Addr} {k : Nat} {t : T} {v : V}, Owns K h H ts vs fp → ts[k]? = some t → vs[k]? = some v →
    ∃ f1 fc f2, fp = f1 ++ fc ++ f2 ∧ Own K h H t v fc ∧ ∀ h2 H2 t2 fc2, Same h h2 → (∀ a ∈ f1 ++ f2, H2 a = H a ∧ h2 a = none) → Own K h2 H2 t2 v fc2 → Owns K h2 H2 (ts.set k t2) vs (f1 ++ fc2 ++ f2)
  | _, _, _, k, _, _, .nil, e, _ => by simp at e
  | _, _, _, 0, _, _, .cons (f1 := g1) (f2 := g2) a r, e, e' => by
    simp at e e'; subst e e'
    exact ⟨[], g1, g2, by simp, a, fun h2 H2 t2 fc2 s k o => .cons o (r.move s (fun x m => (k x (by simpa using m)).1) fun x m => (k x (by simpa using m)).2)⟩
  | _, _, _, k + 1, _, _, .cons (f1 := g1) (f2 := g2) a r, e, e' => by
    obtain ⟨f1, fc, f2, ef, o, put⟩ := Owns.at r (by simpa using e) (by simpa using e')
    refine ⟨g1 ++ f1, fc, f2, by simp [ef], o, fun h2 H2 t2 fc2 s k o2 => ?_⟩
    have q := put h2 H2 t2 fc2 s (fun x m => k x (by simp at m ⊢; rcases m with m | m <;> simp [m])) o2
    have q2 := Owns.cons (a.move s (fun x m => (k x (by simp [m])).1) fun x m => (k x (by simp [m])).2) q
    simpa using q2
theorem OwnK.at : ∀ {ts vs fp k t v}, OwnK K h H ts vs fp → look ts k = some t → look vs k = some v →
    ∃ f1 fc f2, fp = f1 ++ fc ++ f2 ∧ Own K h H t v fc ∧ ∀ h2 H2 t2 fc2, Same h h2 → (∀ a ∈ f1 ++ f2, H2 a = H a ∧ h2 a = none) → Own K h2 H2 t2 v fc2 → OwnK K h2 H2 (setL ts k t2) vs (f1 ++ fc2 ++ f2)
  | _, _, _, _, _, _, .nil, e, _ => by simp [look] at e
  | _, _, _, k, _, _, .cons (k := k') (f1 := g1) (f2 := g2) a r, e, e' => by
    by_cases hk : k' = k
    · simp only [look, if_pos hk, Option.some.injEq] at e e'
      subst e e'
      exact ⟨[], g1, g2, by simp, a, fun h2 H2 t2 fc2 s q o => by
        simp only [setL, if_pos hk]
        exact .cons o (r.move s (fun x m => (q x (by simpa using m)).1) fun x m => (q x (by simpa using m)).2)⟩
    · simp only [look, if_neg hk] at e e'
      obtain ⟨f1, fc, f2, ef, o, put⟩ := OwnK.at r e e'
      refine ⟨g1 ++ f1, fc, f2, by simp [ef], o, fun h2 H2 t2 fc2 s q o2 => ?_⟩
      have q1 := put h2 H2 t2 fc2 s (fun x m => q x (by simp at m ⊢; rcases m with m | m <;> simp [m])) o2
      have q2 := OwnK.cons (k := k') (a.move s (fun x m => (q x (by simp [m])).1) fun x m => (q x (by simp [m])).2) q1
      simp only [setL, if_neg hk]
      simpa using q2
theorem OwnF.at : ∀ {ts vs fp k t v}, OwnF K h H ts vs fp → look ts k = some t → look vs k = some v →
    ∃ f1 fc f2, fp = f1 ++ fc ++ f2 ∧ Own K h H t v fc ∧ ∀ h2 H2 t2 fc2, Same h h2 → (∀ a ∈ f1 ++ f2, H2 a = H a ∧ h2 a = none) → Own K h2 H2 t2 v fc2 → OwnF K h2 H2 (setL ts k t2) vs (f1 ++ fc2 ++ f2)
  | _, _, _, _, _, _, .nil, e, _ => by simp [look] at e
  | _, _, _, k, _, _, .cons (k := k') (f1 := g1) (f2 := g2) a r, e, e' => by
    by_cases hk : k' = k
    · simp only [look, if_pos hk, Option.some.injEq] at e e'
      subst e e'
      exact ⟨[], g1, g2, by simp, a, fun h2 H2 t2 fc2 s q o => by
        simp only [setL, if_pos hk]
        exact .cons o (r.move s (fun x m => (q x (by simpa using m)).1) fun x m => (q x (by simpa using m)).2)⟩
    · simp only [look, if_neg hk] at e e'
      obtain ⟨f1, fc, f2, ef, o, put⟩ := OwnF.at r e e'
      refine ⟨g1 ++ f1, fc, f2, by simp [ef], o, fun h2 H2 t2 fc2 s q o2 => ?_⟩
      have q1 := put h2 H2 t2 fc2 s (fun x m => q x (by simp at m ⊢; rcases m with m | m <;> simp [m])) o2
      have q2 := OwnF.cons (k := k') (a.move s (fun x m => (q x (by simp [m])).1) fun x m => (q x (by simp [m])).2) q1
      simp only [setL, if_neg hk]
      simpa using q2
/-- a child of a tree -/
theorem Own.kid {t : T} {v0 : V} {fp : List Addr} {s : Stp} {tc : T} {v : V} (o : Own K h H t v0 fp) (e : t.kid s = some tc) (p : Phys H s v0 v) :
    ∃ f1 fc f2, fp = f1 ++ fc ++ f2 ∧ Own K h H tc v fc ∧ ∀ h2 H2 t2 fc2, Same h h2 → (∀ a ∈ f1 ++ f2, H2 a = H a ∧ h2 a = none) → Own K h2 H2 t2 v fc2 → Own K h2 H2 (t.setKid s t2) v0 (f1 ++ fc2 ++ f2) := by
  obtain ⟨a, rfl, p⟩ := p
  cases o with
  | fz x => cases s <;> simp [T.kid] at e
  | ls _ _ _ => cases s <;> simp [T.kid] at e
  | dk _ _ _ => cases s <;> simp [T.kid] at e
  | dt _ _ _ => cases s <;> simp [T.kid] at e
  | ll n b c =>
    cases s with
    | ix k =>
      obtain ⟨vs, e1, e2⟩ := p
      rw [b] at e1; cases e1
      obtain ⟨f1, fc, f2, ef, oc, put⟩ := c.at e e2
      refine ⟨a :: f1, fc, f2, by simp [ef], oc, fun h2 H2 t2 fc2 s q o2 => ?_⟩
      have q1 := put h2 H2 t2 fc2 s (fun x m => q x (by simp at m ⊢; rcases m with m | m <;> simp [m])) o2
      exact .ll (q a (by simp)).2 ((q a (by simp)).1.trans b) q1
    | ky k => simp [T.kid] at e
    | fd f => simp [T.kid] at e
  | dm n b c =>
    cases s with
    | ky k =>
      obtain ⟨vs, e1, e2⟩ := p
      rw [b] at e1; cases e1
      obtain ⟨f1, fc, f2, ef, oc, put⟩ := c.at e e2
      refine ⟨a :: f1, fc, f2, by simp [ef], oc, fun h2 H2 t2 fc2 s q o2 => ?_⟩
      have q1 := put h2 H2 t2 fc2 s (fun x m => q x (by simp at m ⊢; rcases m with m | m <;> simp [m])) o2
      exact .dm (q a (by simp)).2 ((q a (by simp)).1.trans b) q1
    | ix k => simp [T.kid] at e
    | fd f => simp [T.kid] at e
  | @ins _ dx C l m fp' n n' b b' c =>
    cases s with
    | fd k =>
      obtain ⟨C', dx', vs, e1, e2⟩ := p
      rw [b] at e1; cases e1
      obtain ⟨f1, fc, f2, ef, oc, put⟩ := c.at e e2
      refine ⟨a :: dx :: f1, fc, f2, by simp [ef], oc, fun h2 H2 t2 fc2 s q o2 => ?_⟩
      have q1 := put h2 H2 t2 fc2 s (fun x m => q x (by simp at m ⊢; rcases m with m | m <;> simp [m])) o2
      exact .ins (q a (by simp)).2 (q dx (by simp)).2 ((q a (by simp)).1.trans b) ((q dx (by simp)).1.trans b') q1
    | ix k => simp [T.kid] at e
    | ky f => simp [T.kid] at e
theorem OwnE.slot : ∀ {G : En} {σ : L2.St} {fp : List Addr} {i : Nat} {t : T} {v : V}, OwnE K h H G σ fp → G[i]? = some (some t) → σ[i]? = some (some v) →
    ∃ f1 fc f2, fp = f1 ++ fc ++ f2 ∧ Own K h H t v fc ∧ (∀ h2 H2 t2 fc2, Same h h2 → (∀ a ∈ f1 ++ f2, H2 a = H a ∧ h2 a = none) → Own K h2 H2 t2 v fc2 → OwnE K h2 H2 (G.set i (some t2)) σ (f1 ++ fc2 ++ f2)) ∧ ∀ o, OwnE K h H (G.set i none) (σ.set i o) (f1 ++ f2)
  | _, _, _, i, _, _, .nil, e, _ => by simp at e
  | _, _, _, 0, _, _, .no r, e, _ => by simp at e
  | _, _, _, 0, _, _, .so (f1 := g1) (f2 := g2) a r, e, e' => by
    simp at e e'; subst e e'
    exact ⟨[], g1, g2, by simp, a, fun h2 H2 t2 fc2 s k o => .so o (r.move s (fun x m => (k x (by simpa using m)).1) fun x m => (k x (by simpa using m)).2), fun o => .no r⟩
  | _, _, _, i + 1, _, _, .no r, e, e' => by
    obtain ⟨f1, fc, f2, ef, o, put, cut⟩ := OwnE.slot r (by simpa using e) (by simpa using e')
    exact ⟨f1, fc, f2, ef, o, fun h2 H2 t2 fc2 s k o => .no (put h2 H2 t2 fc2 s k o), fun o => .no (cut o)⟩
  | _, _, _, i + 1, _, _, .so (f1 := g1) (f2 := g2) a r, e, e' => by
    obtain ⟨f1, fc, f2, ef, o, put, cut⟩ := OwnE.slot r (by simpa using e) (by simpa using e')
    refine ⟨g1 ++ f1, fc, f2, by simp [ef], o, fun h2 H2 t2 fc2 s k o2 => ?_, fun o => ?_⟩
    · have q := put h2 H2 t2 fc2 s (fun x m => k x (by simp at m ⊢; rcases m with m | m <;> simp [m])) o2
      have q2 := OwnE.so (a.move s (fun x m => (k x (by simp [m])).1) fun x m => (k x (by simp [m])).2) q
      simpa using q2
    · have q2 := OwnE.so a (cut o)
      simpa using q2
/-- a value at a slot that knows nothing -/
theorem OwnE.cut : ∀ {G : En} {σ : L2.St} {fp : List Addr} (i : Nat) (o : Option V), OwnE K h H G σ fp → ∃ fp', OwnE K h H (G.set i none) (σ.set i o) fp' ∧ fp'.Sublist fp
  | _, _, _, i, o, .nil => ⟨[], .nil, .refl _⟩
  | _, _, _, 0, o, .no r => ⟨_, .no r, .refl _⟩
  | _, _, _, 0, o, .so (f1 := g1) a r => ⟨_, .no r, List.sublist_append_right g1 _⟩
  | _, _, _, i + 1, o, .no r => by
    obtain ⟨f, q, s⟩ := OwnE.cut i o r
    exact ⟨f, .no q, s⟩
  | _, _, _, i + 1, o, .so (f1 := g1) a r => by
    obtain ⟨f, q, s⟩ := OwnE.cut i o r
    exact ⟨g1 ++ f, .so a q, List.Sublist.append (.refl _) s⟩
theorem OwnE.put : ∀ {G : En} {σ : L2.St} {fp : List Addr} {i : Nat} {t : T} {v : V} {fc : List Addr}, OwnE K h H G σ fp → G[i]? = some none → Own K h H t v fc → ∃ fp', OwnE K h H (G.set i (some t)) (σ.set i (some v)) fp' ∧ fp'.Perm (fp ++ fc)
  | _, _, _, i, _, _, _, .nil, e, _ => by simp at e
  | _, _, _, 0, _, _, fc, .no (fp := fp) r, e, o => ⟨fc ++ fp, .so o r, List.perm_append_comm⟩
  | _, _, _, 0, _, _, _, .so a r, e, _ => by simp at e
  | _, _, _, i + 1, _, _, _, .no r, e, o => by
    obtain ⟨f, q, s⟩ := OwnE.put r (by simpa using e) o
    exact ⟨f, .no q, s⟩
  | _, _, _, i + 1, _, _, _, .so (f1 := g1) (f2 := g2) a r, e, o => by
    obtain ⟨f, q, s⟩ := OwnE.put r (by simpa using e) o
    exact ⟨g1 ++ f, .so a q, by rw [List.append_assoc]; exact List.Perm.append_left g1 s⟩
theorem OwnE.length : ∀ {G : En} {σ : L2.St} {fp : List Addr}, OwnE K h H G σ fp → G.length = σ.length
  | _, _, _, .nil => rfl
  | _, _, _, .no r => by simp [OwnE.length r]
  | _, _, _, .so a r => by simp [OwnE.length r]
theorem OwnE.has : ∀ {G : En} {σ : L2.St} {fp : List Addr} {i : Nat} {t : T}, OwnE K h H G σ fp → G[i]? = some (some t) → ∃ v, σ[i]? = some (some v)
  | _, _, _, i, _, .nil, e => by simp at e
  | _, _, _, 0, _, .no r, e => by simp at e
  | _, _, _, 0, _, .so (v := v) a r, e => ⟨v, by simp⟩
  | _, _, _, i + 1, _, .no r, e => by simpa using OwnE.has r (by simpa using e)
  | _, _, _, i + 1, _, .so a r, e => by simpa using OwnE.has r (by simpa using e)
/-- a place of the environment -/
theorem OwnE.loc {G : En} {σ : L2.St} {fp : List Addr} {i : Nat} {p : Option Stp} {t : T} {v : V} (o : OwnE K h H G σ fp) (e : atE G i p = some t) (l : LocV H σ i p v) :
    ∃ f1 fc f2, fp = f1 ++ fc ++ f2 ∧ Own K h H t v fc ∧ ∀ h2 H2 t2 fc2, Same h h2 → (∀ a ∈ f1 ++ f2, H2 a = H a ∧ h2 a = none) → Own K h2 H2 t2 v fc2 → OwnE K h2 H2 (setE G i p t2) σ (f1 ++ fc2 ++ f2) := by
  obtain ⟨v0, e0, l⟩ := l
  unfold atE at e
  split at e
  · rename_i t0 eg
    cases p with
    | none =>
      cases e
      cases l
      obtain ⟨f1, fc, f2, ef, oc, put, _⟩ := o.slot eg e0
      exact ⟨f1, fc, f2, ef, oc, put⟩
    | some s =>
      obtain ⟨f1, fc, f2, ef, oc, put, _⟩ := o.slot eg e0
      obtain ⟨g1, gc, g2, eg2, oc2, put2⟩ := oc.kid e l
      refine ⟨f1 ++ g1, gc, g2 ++ f2, by simp [ef, eg2], oc2, fun h2 H2 t2 fc2 s k o2 => ?_⟩
      have q := put2 h2 H2 t2 fc2 s (fun x m => k x (by simp at m ⊢; rcases m with m | m <;> simp [m])) o2
      have q2 := put h2 H2 _ _ s (fun x m => k x (by simp at m ⊢; rcases m with m | m <;> simp [m])) q
      simp only [setE, eg]
      simpa using q2
  · cases e
end
end DL

/-! The judgements over data: expressions, tests, arguments; operators. -/
namespace DL
open PySem PySem.Spec L2

/-! ### readings over data -/
inductive OwnV (K : PySem.W.Frag) (h H : Hp) (G : En) (σ : L2.St) : Vl → V → List Addr → Prop
  | t {t v fp} : Own K h H t v fp → OwnV K h H G σ (.t t) v fp
  | pk {i p v t} : LocV H σ i p v → atE G i p = some t → OwnV K h H G σ (.pk i p) v []
structure Res (K : PySem.W.Frag) (pu : Bool) (σ : L2.St) (h H : Hp) (G : En) (fp : List Addr) (h' H' : Hp) (G' : En) (fp' : List Addr) (vl : Vl) (v : V) (fv : List Addr) : Prop where
  st : Stt K h' H' G' σ fp'
  ov : OwnV K h' H' G' σ vl v fv
  nd : (fp' ++ fv).Nodup
  ex : Ext h H fp h' H' (fp' ++ fv)
  pu : pu = true → G' = G ∧ fp' = fp ∧ ∀ a ∈ fp, H' a = H a
def EPost (K : PySem.W.Frag) (pu : Bool) (σ : L2.St) (h H : Hp) (G : En) (fp : List Addr) (Q : En → Vl → Prop) : VK := fun v H' => ∃ h' G' fp' vl fv, Res K pu σ h H G fp h' H' G' fp' vl v fv ∧ Q G' vl
abbrev DTE := En → (En → Vl → Prop) → Prop
abbrev DTT := En → (En → Bool → Prop) → Prop
def sE (K : PySem.W.Frag) (pu : Bool) (t : DTE) : TE := fun σ H Q' => ∃ h G fp Q, Stt K h H G σ fp ∧ t G Q ∧ ∀ v H', EPost K pu σ h H G fp Q v H' → Q' v H'
def DE (X : Cx) (pu : Bool) (e : Expr) (t : DTE) : Prop := PE X e (sE X.K pu t)
def TPost (K : PySem.W.Frag) (pu : Bool) (σ : L2.St) (h H : Hp) (G : En) (fp : List Addr) (Q : En → Bool → Prop) : Bool → Hp → Prop := fun b H' => ∃ h' G' fp', Stt K h' H' G' σ fp' ∧ Ext h H fp h' H' fp' ∧ (pu = true → G' = G ∧ fp' = fp ∧ ∀ a ∈ fp, H' a = H a) ∧ Q G' b
def sT (K : PySem.W.Frag) (pu : Bool) (t : DTT) : TT := fun σ H Q' => ∃ h G fp Q, Stt K h H G σ fp ∧ t G Q ∧ ∀ b H', TPost K pu σ h H G fp Q b H' → Q' b H'
def DT (X : Cx) (pu : Bool) (e : Expr) (t : DTT) : Prop := PT X e (sT X.K pu t)

theorem pe_imp {X : Cx} {e : Expr} {t t' : TE} (h : PE X e t) (k : ∀ σ H Q, t' σ H Q → t σ H Q) : PE X e t' := ⟨fun pins s σ H Q I q => h.run pins s σ H Q I (k σ H Q q)⟩
theorem pt_imp {X : Cx} {e : Expr} {t t' : TT} (h : PT X e t) (k : ∀ σ H Q, t' σ H Q → t σ H Q) : PT X e t' := ⟨fun pins s σ H Q I q => h.run pins s σ H Q I (k σ H Q q)⟩
theorem pa_imp {X : Cx} {e : List Expr} {t t' : TA} (h : PA X e t) (k : ∀ σ H Q, t' σ H Q → t σ H Q) : PA X e t' := ⟨fun pos pins s σ H Q I q => h.run pos pins s σ H Q I (k σ H Q q)⟩
theorem ps_imp {X : Cx} {e : Stmt} {t t' : TS} (h : PS X e t) (k : ∀ D σ H, t' D σ H → t D σ H) : PS X e t' := ⟨fun pins s σ H D I q => h.run pins s σ H D I (k D σ H q)⟩
theorem pss_imp {X : Cx} {e : List Stmt} {t t' : TS} (h : PSs X e t) (k : ∀ D σ H, t' D σ H → t D σ H) : PSs X e t' := ⟨fun pins s σ H D I q => h.run pins s σ H D I (k D σ H q)⟩

/-! ### reading and freezing -/
def T.flat : T → Option D
  | .fz x => some x
  | .ls l => some (.lst l)
  | .dk l => some (.dK l)
  | .dt l => some (.dT l)
  | _ => none
/-- readable now: the root in H, the items frozen -/
inductive AtR (K : PySem.W.Frag) (h H : Hp) : D → V → Prop
  | of {d v} : At K h d v → AtR K h H d v
  | ls {a ds vs} : H a = some (.lst vs) → Ats K h ds vs → AtR K h H (.lst ds) (.ref a)
  | dk {a l m} : Rd H a (.dK m) → AtK K h l m → AtR K h H (.dK l) (.ref a)
  | dt {a l m} : Rd H a (.dT m) → AtT K h l m → AtR K h H (.dT l) (.ref a)
def fzT (t : T) (k : D → Prop) : Prop := t.calm = true ∧ k t.toD
def fzW (G : En) (vl : Vl) (k : En → D → Prop) : Prop :=
  match vl with
  | .t t => fzT t (k G)
  | .pk i p => (match atE G i p with | some t => fzT t fun d => k (setE G i p (.fz d)) d | none => False)
def rdT (t : T) (k : D → Prop) : Prop := match t.flat with | some d => k d | none => False
def rdW (G : En) (vl : Vl) (k : D → Prop) : Prop :=
  match vl with
  | .t t => rdT t k
  | .pk i p => (match atE G i p with | some t => rdT t k | none => False)

section
variable {K : PySem.W.Frag} {pu : Bool} {σ : L2.St} {h H h' H' : Hp} {G G' : En} {fp fp' fv : List Addr} {vl : Vl} {v : V}
theorem Own.rd {t : T} {d : D} (o : Own K h H t v fp) (e : t.flat = some d) : AtR K h H d v := by
  cases o with
  | fz x => cases e; exact .of x
  | ls a b c => cases e; exact .ls b c
  | dk a b c => cases e; exact .dk (.inl b) c
  | dt a b c => cases e; exact .dt (.inl b) c
  | ll _ _ _ => cases e
  | dm _ _ _ => cases e
  | ins _ _ _ _ _ => cases e
theorem rdT_of {t : T} {k : D → Prop} (w : rdT t k) : ∃ d, t.flat = some d ∧ k d := by
  unfold rdT at w
  split at w
  · exact ⟨_, by assumption, w⟩
  · exact w.elim
theorem OwnV.rd {k : D → Prop} (S : Stt K h H G σ fp) (o : OwnV K h H G σ vl v fv) (w : rdW G vl k) : ∃ d, AtR K h H d v ∧ k d := by
  cases o with
  | t o =>
    obtain ⟨d, e, q⟩ := rdT_of w
    exact ⟨d, o.rd e, q⟩
  | pk l e =>
    simp only [rdW, e] at w
    obtain ⟨d, e2, q⟩ := rdT_of w
    obtain ⟨f1, fc, f2, _, oc, _⟩ := S.env.loc e l
    exact ⟨d, oc.rd e2, q⟩
theorem froz_sub (s : Sub h H) (n : ∀ a ∈ fv, ∃ o, H a = some o) : Sub (froz h H fv) H := fun a o e => by
  by_cases m : a ∈ fv
  · rw [froz_in m] at e; exact .inl e
  · rw [froz_out m] at e; exact s a o e
theorem perm_mid {α : Type} (a b c : List α) : (a ++ b ++ c).Perm (a ++ c ++ b) := by
  rw [List.append_assoc, List.append_assoc]; exact List.Perm.append_left a List.perm_append_comm
/-- the value is frozen: what is known behind it -/
theorem Res.fz {k : En → D → Prop} (r : Res K pu σ h H G fp h' H' G' fp' vl v fv) (w : fzW G' vl k) :
    ∃ h2 G2 fp2 d, Stt K h2 H' G2 σ fp2 ∧ At K h2 d v ∧ Ext h H fp h2 H' fp2 ∧ k G2 d := by
  obtain ⟨st, ov, nd, ex, _⟩ := r
  cases ov with
  | @t t v fv o =>
    obtain ⟨c, q⟩ := w
    have th := o.there
    have sm : Same h' (froz h' H' fv) := froz_same fun a m => (th a m).1
    have nn : ∀ a ∈ fp', froz h' H' fv a = none := fun a m => by
      rw [froz_out (fun m2 => (List.nodup_append.mp nd).2.2 a m a m2 rfl)]
      exact (st.env.there a m).1
    refine ⟨froz h' H' fv, G', fp', t.toD, ⟨froz_sub st.sub fun a m => (th a m).2, st.env.move sm (fun _ _ => rfl) nn, st.nd⟩, o.freeze sm (fun a m => froz_in m) c, ⟨ex.gh.trans sm, fun a o m e => (ex.fr a o m e).imp id fun ⟨d, x, u, hu⟩ => ⟨d, x, u, sm a u hu⟩, fun a m => ex.nw a (by simp [m]), fun a u e => ?_⟩, q⟩
    by_cases m : a ∈ fv
    · exact .inr ((ex.nw a (by simp [m])).imp id .inl)
    · rw [froz_out m] at e; exact ex.hn a u e
  | @pk i p v t l e =>
    simp only [fzW, e] at w
    obtain ⟨c, q⟩ := w
    obtain ⟨f1, fc, f2, ef, o, put⟩ := st.env.loc e l
    have th := o.there
    have sm : Same h' (froz h' H' fc) := froz_same fun a m => (th a m).1
    have ndf : (f1 ++ f2 ++ fc).Nodup := (perm_mid f1 fc f2).nodup_iff.mp (ef ▸ st.nd)
    have nn : ∀ a ∈ f1 ++ f2, froz h' H' fc a = none := fun a m => by
      rw [froz_out (fun m2 => (List.nodup_append.mp ndf).2.2 a m a m2 rfl)]
      exact (st.env.there a (by rw [ef]; simp at m ⊢; rcases m with m | m <;> simp [m])).1
    have p2 := put (froz h' H' fc) H' (.fz t.toD) [] sm (fun a m => ⟨rfl, nn a m⟩) (.fz (o.freeze sm (fun a m => froz_in m) c))
    rw [List.append_nil] at p2
    refine ⟨froz h' H' fc, _, f1 ++ f2, t.toD, ⟨froz_sub st.sub fun a m => (th a m).2, p2, (List.nodup_append.mp ndf).1⟩, o.freeze sm (fun a m => froz_in m) c, ⟨ex.gh.trans sm, fun a o m e => (ex.fr a o m e).imp id fun ⟨d, x, u, hu⟩ => ⟨d, x, u, sm a u hu⟩, fun a m => ex.nw a (by rw [ef]; simp at m ⊢; rcases m with m | m <;> simp [m]), fun a u e => ?_⟩, q⟩
    by_cases m : a ∈ fc
    · exact .inr ((ex.nw a (by rw [ef]; simp [m])).imp id .inl)
    · rw [froz_out m] at e; exact ex.hn a u e
/-- .. a temporary tree: the environment stays -/
theorem Res.fzt {t : T} {k : En → D → Prop} (r : Res K pu σ h H G fp h' H' G' fp' (.t t) v fv) (w : fzW G' (.t t) k) :
    ∃ h2 d, Stt K h2 H' G' σ fp' ∧ At K h2 d v ∧ Ext h H fp h2 H' fp' ∧ k G' d := by
  obtain ⟨st, ov, nd, ex, _⟩ := r
  cases ov with
  | t o =>
    obtain ⟨c, q⟩ := w
    have th := o.there
    have sm : Same h' (froz h' H' fv) := froz_same fun a m => (th a m).1
    have nn : ∀ a ∈ fp', froz h' H' fv a = none := fun a m => by
      rw [froz_out (fun m2 => (List.nodup_append.mp nd).2.2 a m a m2 rfl)]
      exact (st.env.there a m).1
    refine ⟨froz h' H' fv, t.toD, ⟨froz_sub st.sub fun a m => (th a m).2, st.env.move sm (fun _ _ => rfl) nn, st.nd⟩, o.freeze sm (fun a m => froz_in m) c, ⟨ex.gh.trans sm, fun a o m e => (ex.fr a o m e).imp id fun ⟨d, x, u, hu⟩ => ⟨d, x, u, sm a u hu⟩, fun a m => ex.nw a (by simp [m]), fun a u e => ?_⟩, q⟩
    by_cases m : a ∈ fv
    · exact .inr ((ex.nw a (by simp [m])).imp id .inl)
    · rw [froz_out m] at e; exact ex.hn a u e
theorem Res.drop (r : Res K pu σ h H G fp h' H' G' fp' vl v fv) : Ext h H fp h' H' fp' := r.ex.weak fun a m => by simp [m]
/-- a place stays one where nothing owned has changed -/
theorem LocV.keep {i : Nat} {p : Option Stp} {t : T} (S : Stt K h H G σ fp) (e : atE G i p = some t) (l : LocV H σ i p v) (kp : ∀ a ∈ fp, H' a = H a) : LocV H' σ i p v := by
  obtain ⟨v0, e0, l⟩ := l
  refine ⟨v0, e0, ?_⟩
  cases p with
  | none => exact l
  | some s =>
    unfold atE at e
    split at e
    · rename_i t0 eg
      obtain ⟨f1, fc, f2, ef, oc, _, _⟩ := S.env.slot eg e0
      have kc : ∀ a ∈ fc, H' a = H a := fun a m => kp a (by rw [ef]; simp [m])
      obtain ⟨a, rfl, l⟩ := l
      have hr : a ∈ fc := by
        cases oc with
        | fz x => cases s <;> simp [T.kid] at e
        | ls _ _ _ => simp
        | dk _ _ _ => simp
        | dt _ _ _ => simp
        | ll _ _ _ => simp
        | dm _ _ _ => simp
        | ins _ _ _ _ _ => simp
      refine ⟨a, rfl, ?_⟩
      cases s with
      | ix k => obtain ⟨vs, e1, e2⟩ := l; exact ⟨vs, (kc a hr).trans e1, e2⟩
      | ky k => obtain ⟨vs, e1, e2⟩ := l; exact ⟨vs, (kc a hr).trans e1, e2⟩
      | fd k => obtain ⟨C, dx, vs, e1, e2⟩ := l; exact ⟨C, dx, vs, (kc a hr).trans e1, e2⟩
    · cases e
end

/-! ### operators -/
/-- what a step of a rule leaves: new things alone -/
structure OpRes (K : PySem.W.Frag) (h H h' H' : Hp) (t : T) (v : V) (fv : List Addr) : Prop where
  gh : Same h h'
  sub : Sub h' H'
  fr : Same H H'
  own : Own K h' H' t v fv
  nd : fv.Nodup
  new : ∀ a ∈ fv, H a = none
  hn : ∀ a o, h' a = some o → h a = some o ∨ H a = none
def OpPost (K : PySem.W.Frag) (h H : Hp) (R : T → Prop) : VK := fun v H' => ∃ h' t fv, OpRes K h H h' H' t v fv ∧ R t
abbrev D1 := D → (T → Prop) → Prop
abbrev D2 := D → D → (T → Prop) → Prop
abbrev DN := List D → (T → Prop) → Prop
/-- several arguments, readable -/
inductive AtRs (K : PySem.W.Frag) (h H : Hp) : List D → List V → Prop
  | nil : AtRs K h H [] []
  | cons {d ds v vs} : AtR K h H d v → AtRs K h H ds vs → AtRs K h H (d :: ds) (v :: vs)
def rOf (K : PySem.W.Frag) (k : D2) : R2 := fun x y H Q' => ∃ h dx dy R, Sub h H ∧ AtR K h H dx x ∧ AtR K h H dy y ∧ k dx dy R ∧ ∀ v H', OpPost K h H R v H' → Q' v H'
def rOf1 (K : PySem.W.Frag) (k : D1) : V → Hp → VK → Prop := fun x H Q' => ∃ h dx R, Sub h H ∧ AtR K h H dx x ∧ k dx R ∧ ∀ v H', OpPost K h H R v H' → Q' v H'
def rOfN (K : PySem.W.Frag) (k : DN) : List V → Hp → VK → Prop := fun xs H Q' => ∃ h ds R, Sub h H ∧ AtRs K h H ds xs ∧ k ds R ∧ ∀ v H', OpPost K h H R v H' → Q' v H'
def OpK (X : Cx) (f : Value → Value → Sem Value) (k : D2) : Prop := OpR X f (rOf X.K k)
def UnK (X : Cx) (f : Value → Sem Value) (k : D1) : Prop := UnR X f (rOf1 X.K k)
def CaK (X : Cx) (f : Value) (k : DN) : Prop := CallR X f (rOfN X.K k)
section
variable {K : PySem.W.Frag} {h H h' H' : Hp} {v : V} {fv : List Addr} {t : T} {R : T → Prop}
/-- a value without a place -/
theorem OpPost.plain {d : D} (s : Sub h H) (a : At K h d v) (q : R (.fz d)) : OpPost K h H R v H :=
  ⟨h, .fz d, [], ⟨Same.refl h, s, Same.refl H, .fz a, .nil, (fun _ m => nomatch m), fun _ _ e => .inl e⟩, q⟩
/-- a new list, its items frozen -/
theorem OpPost.list {p : Addr} {ds : List D} {vs : List V} (s : Sub h H) (np : H p = none) (a : Ats K h ds vs) (q : R (.ls ds)) : OpPost K h H R (.ref p) (upd H p (.lst vs)) := by
  have hp : h p = none := by
    cases e : h p with
    | none => rfl
    | some o => obtain ⟨u, q⟩ := s.there e; rw [np] at q; cases q
  refine ⟨h, .ls ds, [p], ⟨Same.refl h, fun a o e => ?_, fun a o e => ?_, .ls hp upd_same a, by simp, by simpa using np, fun _ _ e => .inl e⟩, q⟩
  · rw [upd_ne (fun z => by subst z; rw [hp] at e; cases e)]; exact s a o e
  · rw [upd_ne (ne_of_none e np)]; exact e
/-- a new tuple -/
theorem OpPost.tup {p : Addr} {ds : List D} {vs : List V} (s : Sub h H) (np : H p = none) (a : Ats K h ds vs) (q : R (.fz (.tup ds))) : OpPost K h H R (.ref p) (upd H p (.tup vs)) := by
  have hp : h p = none := by
    cases e : h p with
    | none => rfl
    | some o => obtain ⟨u, q⟩ := s.there e; rw [np] at q; cases q
  have sm : Same h (upd h p (.tup vs)) := fun a o e => by rw [upd_ne (ne_of_none e hp)]; exact e
  refine ⟨upd h p (.tup vs), .fz (.tup ds), [], ⟨sm, fun a o e => ?_, fun a o e => ?_, .fz (.tup upd_same (a.mono sm)), .nil, (fun _ m => nomatch m), fun a o e => ?_⟩, q⟩
  · by_cases z : a = p
    · subst z; rw [upd_same] at e ⊢; exact .inl e
    · rw [upd_ne z] at e ⊢; exact s a o e
  · rw [upd_ne (ne_of_none e np)]; exact e
  · by_cases z : a = p
    · subst z; exact .inr np
    · rw [upd_ne z] at e; exact .inl e
end

/-! ### rules of expressions -/
def dConst (t : T) : DTE := fun G Q => Q G (.t t)
def dVar (i : Nat) : DTE := fun G Q => match G[i]? with
  | some (some (.fz d)) => Q G (.t (.fz d))
  | some (some t) => Q G (.pk i none)
  | _ => False
/-- two operands, then what is made of them -/
def dBin (k : D2) (pb : Bool) (ta tb : DTE) : DTE := fun G Q => ta G fun G1 va =>
  match va, pb with
  | .pk i p, true => tb G1 fun G2 vb => rdW G2 (.pk i p) fun x => rdW G2 vb fun y => k x y fun t => Q G2 (.t t)
  | va, _ => fzW G1 va fun G1' x => tb G1' fun G2 vb => rdW G2 vb fun y => k x y fun t => Q G2 (.t t)
def dUn (k : D1) (ta : DTE) : DTE := fun G Q => ta G fun G1 va => rdW G1 va fun x => k x fun t => Q G1 (.t t)

section
variable {X : Cx} {pa pb : Bool} {a b e : Expr} {ta tb : DTE} {pos : Pos}
theorem res_const {K : PySem.W.Frag} {h H : Hp} {G : En} {σ : L2.St} {fp : List Addr} {d : D} {v : V} (S : Stt K h H G σ fp) (r : At K h d v) : Res K true σ h H G fp h H G fp (.t (.fz d)) v [] :=
  ⟨S, .t (.fz r), by simpa using S.nd, by simpa using Ext.refl h H fp, fun _ => ⟨rfl, rfl, fun _ _ => rfl⟩⟩
theorem de_const {v : V} {d : D} (p : PE X e (tC v)) (r : ∀ h, At X.K h d v) : DE X true e (dConst (.fz d)) := pe_imp p fun σ H Q ⟨h, G, fp, Q', S, w, k⟩ =>
  k _ _ ⟨h, G, fp, _, [], res_const S (r h), w⟩
theorem de_int {i j pos} : DE X true (.Constant (.int i) j pos) (dConst (.fz (.int i))) := de_const pe_int fun _ => .int
theorem de_bl {i j pos} : DE X true (.Constant (.bool i) j pos) (dConst (.fz (.bl i))) := de_const pe_bl fun _ => .bl
theorem de_non {j pos} : DE X true (.Constant .none j pos) (dConst (.fz .non)) := de_const pe_non fun _ => .non
theorem de_str {x j pos} : DE X true (.Constant (.str x) j pos) (dConst (.fz (.str x))) := de_const pe_str fun _ => .str
theorem de_var {i : Nat} (p : PE X e (tVar i)) : DE X true e (dVar i) := pe_imp p fun σ H Q ⟨h, G, fp, Q', S, w, k⟩ => by
  unfold dVar at w
  split at w
  · rename_i d eg
    obtain ⟨v, ev⟩ := S.env.has eg
    obtain ⟨f1, fc, f2, ef, o, _⟩ := S.env.slot eg ev
    cases o with
    | fz x => exact ⟨v, ev, k _ _ ⟨h, G, fp, _, [], res_const S x, w⟩⟩
  · rename_i t _ eg
    obtain ⟨v, ev⟩ := S.env.has eg
    refine ⟨v, ev, k _ _ ⟨h, G, fp, _, [], ⟨S, .pk (t := t) ⟨v, ev, rfl⟩ ?_, by simpa using S.nd, by simpa using Ext.refl h H fp, fun _ => ⟨rfl, rfl, fun _ _ => rfl⟩⟩, w⟩⟩
    simp [atE, eg]
  · exact w.elim

theorem OpRes.res {K : PySem.W.Frag} {pu : Bool} {σ : L2.St} {h H h1 H1 h' H' : Hp} {G G1 : En} {fp f1 fv : List Addr} {t : T} {v : V} (S : Stt K h1 H1 G1 σ f1) (ex : Ext h H fp h1 H1 f1)
    (pu1 : pu = true → G1 = G ∧ f1 = fp ∧ ∀ a ∈ fp, H1 a = H a) (o : OpRes K h1 H1 h' H' t v fv) : Res K pu σ h H G fp h' H' G1 f1 (.t t) v fv := by
  have th := S.env.there
  have hk : ∀ a ∈ f1, H' a = H1 a := fun a m => by obtain ⟨_, u, e⟩ := th a m; rw [e]; exact o.fr a u e
  have hn : ∀ a ∈ f1, h' a = none := fun a m => by
    obtain ⟨n, u, e⟩ := th a m
    cases q : h' a with
    | none => rfl
    | some z =>
      rcases o.hn a z q with r | r
      · rw [n] at r; cases r
      · rw [e] at r; cases r
  have dj : ∀ a ∈ f1, a ∉ fv := fun a m m2 => by
    obtain ⟨_, u, e⟩ := th a m
    rw [o.new a m2] at e; cases e
  have nd2 : (f1 ++ fv).Nodup := List.nodup_append.mpr ⟨S.nd, o.nd, fun x hx y hy e => dj x hx (e ▸ hy)⟩
  refine ⟨⟨o.sub, S.env.move o.gh hk hn, S.nd⟩, .t o.own, nd2, ?_, fun p => ?_⟩
  · refine ex.trans ⟨o.gh, fun a u m e => .inl (o.fr a u e), fun a m => ?_, fun a u e => ?_⟩
    · rcases List.mem_append.mp m with m | m
      · exact .inl m
      · exact .inr (o.new a m)
    · rcases o.hn a u e with r | r
      · exact .inl r
      · exact .inr (.inr (.inl r))
  · obtain ⟨p1, p2, p3⟩ := pu1 p
    exact ⟨p1, p2, fun a m => (hk a (p2 ▸ m)).trans (p3 a m)⟩

theorem bin_imp {K : PySem.W.Frag} {k : D2} {σ : L2.St} {H : Hp} {Q : VK} (w : sE K (pa && pb) (dBin k pb ta tb) σ H Q) : tOp (rOf K k) (sE K pa ta) (sE K pb tb) σ H Q := by
  obtain ⟨h, G, fp, Q', S, w, c⟩ := w
  refine ⟨h, G, fp, _, S, w, fun v H1 ⟨h1, G1, f1, va, fva, r1, w1⟩ => ?_⟩
  have gen : (fzW G1 va fun G1' x => tb G1' fun G2 vb => rdW G2 vb fun y => k x y fun t => Q' G2 (.t t)) → (pb = true → ∃ t, va = .t t) → sE K pb tb σ H1 fun y H2 => rOf K k v y H2 Q := fun w0 hpb => by
    have key : ∃ h2 G2 f2 d, Stt K h2 H1 G2 σ f2 ∧ At K h2 d v ∧ Ext h H fp h2 H1 f2 ∧ ((pa && pb) = true → G2 = G ∧ f2 = fp ∧ ∀ a ∈ fp, H1 a = H a) ∧ tb G2 fun G2 vb => rdW G2 vb fun y => k d y fun t => Q' G2 (.t t) := by
      cases hp : pb with
      | true =>
        obtain ⟨t, rfl⟩ := hpb hp
        subst hp
        obtain ⟨h2, d, S2, a2, e2, q2⟩ := r1.fzt w0
        exact ⟨h2, G1, f1, d, S2, a2, e2, fun z => r1.pu (by simpa using z), q2⟩
      | false =>
        obtain ⟨h2, G2, f2, d, S2, a2, e2, q2⟩ := r1.fz w0
        subst hp
        exact ⟨h2, G2, f2, d, S2, a2, e2, fun z => by simp at z, q2⟩
    obtain ⟨h2, G2, f2, d, S2, a2, e2, pu2, w2⟩ := key
    refine ⟨h2, G2, f2, _, S2, w2, fun u H3 ⟨h3, G3, f3, vb, fvb, r3, w3⟩ => ?_⟩
    obtain ⟨y, ay, w4⟩ := r3.ov.rd r3.st w3
    refine ⟨h3, d, y, _, r3.st.sub, .of (a2.mono r3.ex.gh), ay, w4, fun v' H' ⟨h', t, fv, o, q⟩ => ?_⟩
    refine c v' H' ⟨h', G3, f3, .t t, fv, o.res r3.st (e2.trans r3.drop) (fun z => ?_), q⟩
    have zb : pb = true := (Bool.and_eq_true _ _ ▸ z : pa = true ∧ pb = true).2
    obtain ⟨q1, q2, q3⟩ := pu2 z
    obtain ⟨p1, p2, p3⟩ := r3.pu zb
    exact ⟨p1.trans q1, p2.trans q2, fun a m => (p3 a (q2 ▸ m)).trans (q3 a m)⟩
  dsimp only at w1
  split at w1
  · rename_i i p
    refine ⟨h1, G1, f1, _, r1.st, w1, fun u H3 ⟨h3, G3, f3, vb, fvb, r3, w3⟩ => ?_⟩
    obtain ⟨p1, p2, p3⟩ := r3.pu rfl
    subst p1 p2
    cases r1.ov with
    | pk l e =>
      have l3 := l.keep r1.st e p3
      obtain ⟨x, ax, w3⟩ := OwnV.rd r3.st (.pk l3 e) w3
      obtain ⟨y, ay, w4⟩ := r3.ov.rd r3.st w3
      refine ⟨h3, x, y, _, r3.st.sub, ax, ay, w4, fun v' H' ⟨h', t, fv, o, q⟩ => ?_⟩
      refine c v' H' ⟨h', G3, f3, .t t, fv, o.res r3.st (r1.drop.trans r3.drop) (fun z => ?_), q⟩
      obtain ⟨q1, q2, q3⟩ := r1.pu (by simpa using z)
      exact ⟨q1, q2, fun a m => (p3 a (q2 ▸ m)).trans (q3 a m)⟩
  · rename_i va' pb' hx
    refine gen w1 fun z => ?_
    cases va with
    | t t => exact ⟨t, rfl⟩
    | pk i p => exact (hx i p rfl z).elim
theorem de_bin {op : Operator} {k : D2} (o : OpK X (binaryOp op) k) (ha : DE X pa a ta) (hb : DE X pb b tb) : DE X (pa && pb) (.BinOp a op b pos) (dBin k pb ta tb) :=
  pe_imp (pe_op o ha hb) fun _ _ _ w => bin_imp w
theorem de_cmp {op : CmpOp} {k : D2} (o : OpK X (compareOp op) k) (hm : behindInMarks op b = false) (ha : DE X pa a ta) (hb : DE X pb b tb) : DE X (pa && pb) (.Compare a [op] [b] pos) (dBin k pb ta tb) :=
  pe_imp (pe_cmpR o ha hb hm) fun _ _ _ w => bin_imp w
theorem un_imp {K : PySem.W.Frag} {k : D1} {σ : L2.St} {H : Hp} {Q : VK} (w : sE K pa (dUn k ta) σ H Q) : tUn (rOf1 K k) (sE K pa ta) σ H Q := by
  obtain ⟨h, G, fp, Q', S, w, c⟩ := w
  refine ⟨h, G, fp, _, S, w, fun v H1 ⟨h1, G1, f1, va, fva, r1, w1⟩ => ?_⟩
  obtain ⟨x, ax, w2⟩ := r1.ov.rd r1.st w1
  exact ⟨h1, x, _, r1.st.sub, ax, w2, fun v' H' ⟨h', t, fv, o, q⟩ => c v' H' ⟨h', G1, f1, .t t, fv, o.res r1.st r1.drop r1.pu, q⟩⟩
theorem de_un {op : UnaryOp} {k : D1} (o : UnK X (unaryOp op) k) (ha : DE X pa a ta) : DE X pa (.UnaryOp op a pos) (dUn k ta) :=
  pe_imp (pe_un o ha) fun _ _ _ w => un_imp w
end
end DL

/-! Tests, arguments, displays, calls, statements, a def by its body. -/
namespace DL
open PySem PySem.Spec L2

/-! ### tests -/
def isB (d : D) (k : Bool → Prop) : Prop := match d with | .bl b => k b | _ => False
def dVal (te : DTE) : DTT := fun G Q => te G fun G1 v => rdW G1 v fun d => isB d fun b => Q G1 b
def dAnd (t u : DTT) : DTT := fun G Q => t G fun G1 c => if c = true then u G1 Q else Q G1 false
def dOr (t u : DTT) : DTT := fun G Q => t G fun G1 c => if c = true then Q G1 true else u G1 Q
def dNot (t : DTT) : DTT := fun G Q => t G fun G1 c => Q G1 (!c)
def dIfE (t : DTT) (u v : DTE) : DTE := fun G Q => t G fun G1 c => if c = true then u G1 Q else v G1 Q
/-- a test as a value -/
def dOfT (t : DTT) : DTE := fun G Q => t G fun G1 c => Q G1 (.t (.fz (.bl c)))
theorem isB_of {d : D} {k : Bool → Prop} (w : isB d k) : ∃ b, d = .bl b ∧ k b := by
  cases d <;> first | exact w.elim | exact ⟨_, rfl, w⟩
theorem AtR.bl {K : PySem.W.Frag} {h H : Hp} {b : Bool} {v : V} (a : AtR K h H (.bl b) v) : v = .bl b := by
  cases a with
  | of a => cases a; rfl
theorem AtR.int {K : PySem.W.Frag} {h H : Hp} {b : Int} {v : V} (a : AtR K h H (.int b) v) : v = .int b := by
  cases a with
  | of a => cases a; rfl
theorem AtR.str {K : PySem.W.Frag} {h H : Hp} {b : Str} {v : V} (a : AtR K h H (.str b) v) : v = .str b := by
  cases a with
  | of a => cases a; rfl
theorem AtR.non {K : PySem.W.Frag} {h H : Hp} {v : V} (a : AtR K h H .non v) : v = .non := by
  cases a with
  | of a => cases a; rfl
section
variable {X : Cx} {pa pb pc : Bool} {a b e c : Expr} {ta tb te : DTE} {t u : DTT} {pos : Pos} {rest : List Expr}
theorem val_imp {K : PySem.W.Frag} {σ : L2.St} {H : Hp} {Q : Bool → Hp → Prop} (w : sT K pa (dVal te) σ H Q) : tTest (sE K pa te) σ H Q := by
  obtain ⟨h, G, fp, Q', S, w, c⟩ := w
  refine ⟨h, G, fp, _, S, w, fun v H1 ⟨h1, G1, f1, va, fva, r1, w1⟩ => ?_⟩
  obtain ⟨x, ax, w2⟩ := r1.ov.rd r1.st w1
  obtain ⟨b, rfl, w3⟩ := isB_of w2
  exact ⟨b, ax.bl, c b H1 ⟨h1, G1, f1, r1.st, r1.drop, r1.pu, w3⟩⟩
theorem dt_val (h : DE X pa e te) (he : ∀ whole, isTrue e X.env whole = (do let v ← whole; standAt e.pos; holding [v] (truthy v)) := by intro _; rfl) : DT X pa e (dVal te) :=
  pt_imp (pt_val h he) fun _ _ _ w => val_imp w
theorem dt_cmp {op : CmpOp} {k : D2} (o : OpK X (compareOp op) k) (hm : behindInMarks op b = false) (ha : DE X pa a ta) (hb : DE X pb b tb) : DT X (pa && pb) (.Compare a [op] [b] pos) (dVal (dBin k pb ta tb)) := by
  refine pt_imp (pt_cmpR o ha hb hm) fun σ H Q w => ?_
  have q := val_imp w
  obtain ⟨h, G, fp, Q', S, w, c⟩ := q
  exact bin_imp ⟨h, G, fp, Q', S, w, c⟩
structure DW (X : Cx) (pu : Bool) (e : Expr) (t : DTT) : Prop where
  run : PW X e (sT X.K pu t)
theorem pw_imp {X : Cx} {e : Expr} {t t' : TT} (h : PW X e t) (k : ∀ σ H Q, t' σ H Q → t σ H Q) : PW X e t' := ⟨fun wh pins s σ H Q I q => h.run wh pins s σ H Q I (k σ H Q q)⟩
theorem DW.dt (h : DW X pa e t) : DT X pa e t := h.run.pt
theorem dw_and1 (h : DT X pa a t) : DW X pa (.BoolOp .And [a] pos) t := ⟨pw_and1 h⟩
theorem dw_or1 (h : DT X pa a t) : DW X pa (.BoolOp .Or [a] pos) t := ⟨pw_or1 h⟩
theorem andT_imp {K : PySem.W.Frag} {σ : L2.St} {H : Hp} {Q : Bool → Hp → Prop} (w : sT K (pa && pb) (dAnd t u) σ H Q) : tAnd (sT K pa t) (sT K pb u) σ H Q := by
  obtain ⟨h, G, fp, Q', S, w, c⟩ := w
  refine ⟨h, G, fp, _, S, w, fun b H1 ⟨h1, G1, f1, S1, e1, p1, w1⟩ => ?_⟩
  cases b with
  | true =>
    rw [if_pos rfl] at w1 ⊢
    refine ⟨h1, G1, f1, _, S1, w1, fun b H2 ⟨h2, G2, f2, S2, e2, p2, w2⟩ => c b H2 ⟨h2, G2, f2, S2, e1.trans e2, fun z => ?_, w2⟩⟩
    rw [Bool.and_eq_true] at z
    obtain ⟨q1, q2, q3⟩ := p1 z.1
    obtain ⟨r1, r2, r3⟩ := p2 z.2
    exact ⟨r1.trans q1, r2.trans q2, fun a m => (r3 a (q2 ▸ m)).trans (q3 a m)⟩
  | false =>
    rw [if_neg Bool.false_ne_true] at w1 ⊢
    exact c false H1 ⟨h1, G1, f1, S1, e1, fun z => p1 (by rw [Bool.and_eq_true] at z; exact z.1), w1⟩
theorem orT_imp {K : PySem.W.Frag} {σ : L2.St} {H : Hp} {Q : Bool → Hp → Prop} (w : sT K (pa && pb) (dOr t u) σ H Q) : tOr (sT K pa t) (sT K pb u) σ H Q := by
  obtain ⟨h, G, fp, Q', S, w, c⟩ := w
  refine ⟨h, G, fp, _, S, w, fun b H1 ⟨h1, G1, f1, S1, e1, p1, w1⟩ => ?_⟩
  cases b with
  | false =>
    rw [if_neg Bool.false_ne_true] at w1 ⊢
    refine ⟨h1, G1, f1, _, S1, w1, fun b H2 ⟨h2, G2, f2, S2, e2, p2, w2⟩ => c b H2 ⟨h2, G2, f2, S2, e1.trans e2, fun z => ?_, w2⟩⟩
    rw [Bool.and_eq_true] at z
    obtain ⟨q1, q2, q3⟩ := p1 z.1
    obtain ⟨r1, r2, r3⟩ := p2 z.2
    exact ⟨r1.trans q1, r2.trans q2, fun a m => (r3 a (q2 ▸ m)).trans (q3 a m)⟩
  | true =>
    rw [if_pos rfl] at w1 ⊢
    exact c true H1 ⟨h1, G1, f1, S1, e1, fun z => p1 (by rw [Bool.and_eq_true] at z; exact z.1), w1⟩
theorem dw_and (ha : DT X pa a t) (hb : DW X pb (.BoolOp .And (b :: rest) pos) u) : DW X (pa && pb) (.BoolOp .And (a :: b :: rest) pos) (dAnd t u) := ⟨pw_imp (pw_and ha hb.run) fun _ _ _ w => andT_imp w⟩
theorem dw_or (ha : DT X pa a t) (hb : DW X pb (.BoolOp .Or (b :: rest) pos) u) : DW X (pa && pb) (.BoolOp .Or (a :: b :: rest) pos) (dOr t u) := ⟨pw_imp (pw_or ha hb.run) fun _ _ _ w => orT_imp w⟩
theorem dt_not (ha : DT X pa a t) : DT X pa (.UnaryOp .Not a pos) (dNot t) := pt_imp (pt_not ha) fun σ H Q ⟨h, G, fp, Q', S, w, c⟩ =>
  ⟨h, G, fp, _, S, w, fun b H1 ⟨h1, G1, f1, S1, e1, p1, w1⟩ => c (!b) H1 ⟨h1, G1, f1, S1, e1, p1, w1⟩⟩
/-- a value whose kind is a truth, from what a test says -/
def dBV (te : DTE) : DTE := fun G Q => te G fun G1 v => rdW G1 v fun d => isB d fun b => Q G1 (.t (.fz (.bl b)))
def dAndV (ta tb : DTE) : DTE := fun G Q => ta G fun G1 v => rdW G1 v fun d => isB d fun b => if b = true then tb G1 Q else Q G1 (.t (.fz (.bl false)))
def dOrV (ta tb : DTE) : DTE := fun G Q => ta G fun G1 v => rdW G1 v fun d => isB d fun b => if b = true then Q G1 (.t (.fz (.bl true))) else tb G1 Q
def dNotV (ta : DTE) : DTE := fun G Q => ta G fun G1 v => rdW G1 v fun d => isB d fun b => Q G1 (.t (.fz (.bl (!b))))
theorem de_one {op} (h : DE X pa a ta) : DE X pa (.BoolOp op [a] pos) ta := pe_one h
theorem res_bl {K : PySem.W.Frag} {σ : L2.St} {h H h1 H1 : Hp} {G G1 : En} {fp f1 : List Addr} {b : Bool} (S : Stt K h1 H1 G1 σ f1) (ex : Ext h H fp h1 H1 f1) (pu1 : pa = true → G1 = G ∧ f1 = fp ∧ ∀ a ∈ fp, H1 a = H a) :
    Res K pa σ h H G fp h1 H1 G1 f1 (.t (.fz (.bl b))) (.bl b) [] := ⟨S, .t (.fz .bl), by simpa using S.nd, by simpa using ex, pu1⟩
theorem Res.chain {K : PySem.W.Frag} {σ : L2.St} {h H h1 H1 h2 H2 : Hp} {G G1 G2 : En} {fp f1 f2 fv : List Addr} {vl : Vl} {v : V} (e1 : Ext h H fp h1 H1 f1) (p1 : pa = true → G1 = G ∧ f1 = fp ∧ ∀ a ∈ fp, H1 a = H a) (r : Res K pb σ h1 H1 G1 f1 h2 H2 G2 f2 vl v fv) :
    Res K (pa && pb) σ h H G fp h2 H2 G2 f2 vl v fv := ⟨r.st, r.ov, r.nd, e1.trans r.ex, fun z => by
      rw [Bool.and_eq_true] at z
      obtain ⟨q1, q2, q3⟩ := p1 z.1
      obtain ⟨r1, r2, r3⟩ := r.pu z.2
      exact ⟨r1.trans q1, r2.trans q2, fun a m => (r3 a (q2 ▸ m)).trans (q3 a m)⟩⟩
theorem Res.weak {K : PySem.W.Frag} {σ : L2.St} {h H h2 H2 : Hp} {G G2 : En} {fp f2 fv : List Addr} {vl : Vl} {v : V} (r : Res K pa σ h H G fp h2 H2 G2 f2 vl v fv) (s : pb = true → pa = true) : Res K pb σ h H G fp h2 H2 G2 f2 vl v fv :=
  ⟨r.st, r.ov, r.nd, r.ex, fun z => r.pu (s z)⟩
theorem de_and (ha : DE X pa a ta) (hb : DE X pb (.BoolOp .And (b :: rest) pos) tb) : DE X (pa && pb) (.BoolOp .And (a :: b :: rest) pos) (dAndV ta tb) := by
  refine pe_imp (pe_and ha hb) fun σ H Q ⟨h, G, fp, Q', S, w, c⟩ => ?_
  refine ⟨h, G, fp, _, S, w, fun v H1 ⟨h1, G1, f1, va, fva, r1, w1⟩ => ?_⟩
  obtain ⟨x, ax, w2⟩ := r1.ov.rd r1.st w1
  obtain ⟨b, rfl, w3⟩ := isB_of w2
  refine ⟨b, ax.bl, ?_⟩
  cases b with
  | true =>
    rw [if_pos rfl] at w3 ⊢
    exact ⟨h1, G1, f1, _, r1.st, w3, fun u H2 ⟨h2, G2, f2, vb, fvb, r2, w4⟩ => c u H2 ⟨h2, G2, f2, vb, fvb, .chain r1.drop r1.pu r2, w4⟩⟩
  | false =>
    rw [if_neg Bool.false_ne_true] at w3 ⊢
    exact c _ H1 ⟨h1, G1, f1, _, [], (res_bl r1.st r1.drop r1.pu).weak (fun z => (Bool.and_eq_true _ _ ▸ z : pa = true ∧ pb = true).1), w3⟩
theorem de_or (ha : DE X pa a ta) (hb : DE X pb (.BoolOp .Or (b :: rest) pos) tb) : DE X (pa && pb) (.BoolOp .Or (a :: b :: rest) pos) (dOrV ta tb) := by
  refine pe_imp (pe_or ha hb) fun σ H Q ⟨h, G, fp, Q', S, w, c⟩ => ?_
  refine ⟨h, G, fp, _, S, w, fun v H1 ⟨h1, G1, f1, va, fva, r1, w1⟩ => ?_⟩
  obtain ⟨x, ax, w2⟩ := r1.ov.rd r1.st w1
  obtain ⟨b, rfl, w3⟩ := isB_of w2
  refine ⟨b, ax.bl, ?_⟩
  cases b with
  | false =>
    rw [if_neg Bool.false_ne_true] at w3 ⊢
    exact ⟨h1, G1, f1, _, r1.st, w3, fun u H2 ⟨h2, G2, f2, vb, fvb, r2, w4⟩ => c u H2 ⟨h2, G2, f2, vb, fvb, .chain r1.drop r1.pu r2, w4⟩⟩
  | true =>
    rw [if_pos rfl] at w3 ⊢
    exact c _ H1 ⟨h1, G1, f1, _, [], (res_bl r1.st r1.drop r1.pu).weak (fun z => (Bool.and_eq_true _ _ ▸ z : pa = true ∧ pb = true).1), w3⟩
theorem de_not (ha : DE X pa a ta) : DE X pa (.UnaryOp .Not a pos) (dNotV ta) := by
  refine pe_imp (pe_not ha) fun σ H Q ⟨h, G, fp, Q', S, w, c⟩ => ?_
  refine ⟨h, G, fp, _, S, w, fun v H1 ⟨h1, G1, f1, va, fva, r1, w1⟩ => ?_⟩
  obtain ⟨x, ax, w2⟩ := r1.ov.rd r1.st w1
  obtain ⟨b, rfl, w3⟩ := isB_of w2
  exact ⟨b, ax.bl, c _ H1 ⟨h1, G1, f1, _, [], res_bl r1.st r1.drop r1.pu, w3⟩⟩
theorem de_ifExp (hc : DT X pc c t) (ha : DE X pa a ta) (hb : DE X pb b tb) : DE X (pc && (pa && pb)) (.IfExp c a b pos) (dIfE t ta tb) := by
  refine pe_imp (pe_ifExp hc ha hb) fun σ H Q ⟨h, G, fp, Q', S, w, c⟩ => ?_
  refine ⟨h, G, fp, _, S, w, fun b H1 ⟨h1, G1, f1, S1, e1, p1, w1⟩ => ?_⟩
  cases b with
  | true =>
    rw [if_pos rfl] at w1 ⊢
    exact ⟨h1, G1, f1, _, S1, w1, fun u H2 ⟨h2, G2, f2, vb, fvb, r2, w4⟩ => c u H2 ⟨h2, G2, f2, vb, fvb, (Res.chain e1 p1 r2).weak (fun z => by simp only [Bool.and_eq_true] at z ⊢; exact ⟨z.1, z.2.1⟩), w4⟩⟩
  | false =>
    rw [if_neg Bool.false_ne_true] at w1 ⊢
    exact ⟨h1, G1, f1, _, S1, w1, fun u H2 ⟨h2, G2, f2, vb, fvb, r2, w4⟩ => c u H2 ⟨h2, G2, f2, vb, fvb, (Res.chain e1 p1 r2).weak (fun z => by simp only [Bool.and_eq_true] at z ⊢; exact ⟨z.1, z.2.2⟩), w4⟩⟩
/-- purity may be forgotten -/
theorem de_imp (h : DE X pa e te) : DE X false e te := pe_imp h fun σ H Q ⟨h, G, fp, Q', S, w, c⟩ =>
  ⟨h, G, fp, _, S, w, fun v H1 ⟨h1, G1, f1, va, fva, r1, w1⟩ => c v H1 ⟨h1, G1, f1, va, fva, r1.weak (fun z => by cases z), w1⟩⟩
end

/-! ### arguments -/
inductive AV where
  | d (x : D) | sl (i : Nat)
inductive AVs (K : PySem.W.Frag) (h : Hp) (σ : L2.St) : List AV → List V → Prop
  | nil : AVs K h σ [] []
  | d {x v as vs} : At K h x v → AVs K h σ as vs → AVs K h σ (.d x :: as) (v :: vs)
  | sl {i v as vs} : σ[i]? = some (some v) → AVs K h σ as vs → AVs K h σ (.sl i :: as) (v :: vs)
theorem AVs.mono {K : PySem.W.Frag} {h h' : Hp} {σ : L2.St} (s : Same h h') : ∀ {as vs}, AVs K h σ as vs → AVs K h' σ as vs
  | _, _, .nil => .nil
  | _, _, .d a r => .d (a.mono s) (r.mono s)
  | _, _, .sl e r => .sl e (r.mono s)
abbrev DTA := En → (En → List AV → Prop) → Prop
def APost (K : PySem.W.Frag) (pu : Bool) (σ : L2.St) (h H : Hp) (G : En) (fp : List Addr) (Q : En → List AV → Prop) : List V → Hp → Prop := fun vs H' => ∃ h' G' fp' as, Stt K h' H' G' σ fp' ∧ AVs K h' σ as vs ∧ Ext h H fp h' H' fp' ∧ (pu = true → G' = G ∧ fp' = fp ∧ ∀ a ∈ fp, H' a = H a) ∧ Q G' as
def sA (K : PySem.W.Frag) (pu : Bool) (t : DTA) : TA := fun σ H Q' => ∃ h G fp Q, Stt K h H G σ fp ∧ t G Q ∧ ∀ vs H', APost K pu σ h H G fp Q vs H' → Q' vs H'
def DA (X : Cx) (pu : Bool) (es : List Expr) (t : DTA) : Prop := PA X es (sA X.K pu t)
def dNil : DTA := fun G Q => Q G []
/-- an argument that is frozen -/
def dACons (te : DTE) (ta : DTA) : DTA := fun G Q => te G fun G1 v => fzW G1 v fun G2 x => ta G2 fun G3 as => Q G3 (.d x :: as)
/-- .. a value of its own: the environment stays -/
def fzP (G : En) (vl : Vl) (k : En → D → Prop) : Prop := match vl with | .t t => fzW G (.t t) k | .pk _ _ => False
def dAConsP (te : DTE) (ta : DTA) : DTA := fun G Q => te G fun G1 v => fzP G1 v fun G2 x => ta G2 fun G3 as => Q G3 (.d x :: as)
/-- a name that is lent -/
def dALend (i : Nat) (ta : DTA) : DTA := fun G Q => (∃ t, G[i]? = some (some t)) ∧ ta G fun G3 as => Q G3 (.sl i :: as)
section
variable {X : Cx} {pa pb : Bool} {e : Expr} {es : List Expr} {te : DTE} {ta : DTA} {pos : Pos}
theorem da_nil : DA X true [] dNil := pa_imp pa_nil fun σ H Q ⟨h, G, fp, Q', S, w, c⟩ => c [] H ⟨h, G, fp, [], S, .nil, Ext.refl h H fp, fun _ => ⟨rfl, rfl, fun _ _ => rfl⟩, w⟩
theorem da_cons (he : DE X pa e te) (ha : DA X pb es ta) (hs : starEach (e :: es) X.env = (false, eval e X.env) :: starEach es X.env := by rfl) : DA X false (e :: es) (dACons te ta) := by
  refine pa_imp (pa_cons he ha hs) fun σ H Q ⟨h, G, fp, Q', S, w, c⟩ => ?_
  refine ⟨h, G, fp, _, S, w, fun v H1 ⟨h1, G1, f1, va, fva, r1, w1⟩ => ?_⟩
  obtain ⟨h2, G2, f2, d, S2, a2, e2, w2⟩ := r1.fz w1
  refine ⟨h2, G2, f2, _, S2, w2, fun vs H3 ⟨h3, G3, f3, as, S3, av, e3, p3, w3⟩ => ?_⟩
  exact c _ H3 ⟨h3, G3, f3, _, S3, .d (a2.mono e3.gh) av, e2.trans e3, (fun z => by cases z), w3⟩
theorem da_consP (he : DE X pa e te) (ha : DA X pb es ta) (hs : starEach (e :: es) X.env = (false, eval e X.env) :: starEach es X.env := by rfl) : DA X (pa && pb) (e :: es) (dAConsP te ta) := by
  refine pa_imp (pa_cons he ha hs) fun σ H Q ⟨h, G, fp, Q', S, w, c⟩ => ?_
  refine ⟨h, G, fp, _, S, w, fun v H1 ⟨h1, G1, f1, va, fva, r1, w1⟩ => ?_⟩
  cases va with
  | pk i p => exact w1.elim
  | t t =>
    have w1 : fzW G1 (.t t) (fun G2 x => ta G2 fun G3 as => Q' G3 (.d x :: as)) := w1
    obtain ⟨h2, d, S2, a2, e2, w2⟩ := r1.fzt w1
    refine ⟨h2, G1, f1, _, S2, w2, fun vs H3 ⟨h3, G3, f3, as, S3, av, e3, p3, w3⟩ => ?_⟩
    refine c _ H3 ⟨h3, G3, f3, _, S3, .d (a2.mono e3.gh) av, e2.trans e3, fun z => ?_, w3⟩
    rw [Bool.and_eq_true] at z
    obtain ⟨q1, q2, q3⟩ := r1.pu z.1
    obtain ⟨z1, z2, z3⟩ := p3 z.2
    exact ⟨z1.trans q1, z2.trans q2, fun a m => (z3 a (q2 ▸ m)).trans (q3 a m)⟩
theorem da_lend {i : Nat} (he : PE X e (tVar i)) (ha : DA X pb es ta) (hs : starEach (e :: es) X.env = (false, eval e X.env) :: starEach es X.env := by rfl) : DA X pb (e :: es) (dALend i ta) := by
  refine pa_imp (pa_cons he ha hs) fun σ H Q ⟨h, G, fp, Q', S, ⟨⟨t, eg⟩, w⟩, c⟩ => ?_
  obtain ⟨v, ev⟩ := S.env.has eg
  refine ⟨v, ev, h, G, fp, _, S, w, fun vs H3 ⟨h3, G3, f3, as, S3, av, e3, p3, w3⟩ => ?_⟩
  exact c _ H3 ⟨h3, G3, f3, _, S3, .sl ev av, e3, p3, w3⟩

/-! ### displays -/
def avD : List AV → Option (List D)
  | [] => some []
  | .d x :: r => (avD r).map (x :: ·)
  | .sl _ :: _ => none
theorem avD_at {K : PySem.W.Frag} {h : Hp} {σ : L2.St} : ∀ {as vs ds}, AVs K h σ as vs → avD as = some ds → Ats K h ds vs
  | _, _, _, .nil, e => by cases e; exact .nil
  | _, _, _, .d a r, e => by
    simp only [avD, Option.map_eq_some_iff] at e
    obtain ⟨ds, e1, rfl⟩ := e
    exact .cons a (avD_at r e1)
  | _, _, _, .sl _ _, e => by cases e
theorem Ats.length {K : PySem.W.Frag} {h : Hp} : ∀ {ds vs}, Ats K h ds vs → ds.length = vs.length
  | _, _, .nil => rfl
  | _, _, .cons _ r => by simp [Ats.length r]
def withD (as : List AV) (k : List D → Prop) : Prop := match avD as with | some ds => k ds | none => False
theorem withD_of {as : List AV} {k : List D → Prop} (w : withD as k) : ∃ ds, avD as = some ds ∧ k ds := by
  unfold withD at w
  split at w
  · exact ⟨_, by assumption, w⟩
  · exact w.elim
def dTup (ta : DTA) : DTE := fun G Q => ta G fun G1 as => withD as fun ds => ds.length ≤ 1000 ∧ Q G1 (.t (.fz (.tup ds)))
def dLst (ta : DTA) : DTE := fun G Q => ta G fun G1 as => withD as fun ds => ds.length ≤ 1000 ∧ Q G1 (.t (.ls ds))
theorem OpPost.res {K : PySem.W.Frag} {pu : Bool} {σ : L2.St} {h H h1 H1 H' : Hp} {G G1 : En} {fp f1 : List Addr} {v : V} {R : T → Prop} {Q : En → Vl → Prop} (S : Stt K h1 H1 G1 σ f1) (ex : Ext h H fp h1 H1 f1)
    (pu1 : pu = true → G1 = G ∧ f1 = fp ∧ ∀ a ∈ fp, H1 a = H a) (o : OpPost K h1 H1 R v H') (q : ∀ t, R t → Q G1 (.t t)) : EPost K pu σ h H G fp Q v H' := by
  obtain ⟨h', t, fv, o, r⟩ := o
  exact ⟨h', G1, f1, .t t, fv, o.res S ex pu1, q t r⟩
theorem de_tup {x1} (ha : DA X pa es ta) : DE X pa (.Tuple es x1 pos) (dTup ta) := by
  refine pe_imp (pe_tup ha) fun σ H Q ⟨h, G, fp, Q', S, w, c⟩ => ?_
  refine ⟨h, G, fp, _, S, w, fun vs H1 ⟨h1, G1, f1, as, S1, av, e1, p1, w1⟩ => ?_⟩
  obtain ⟨ds, ed, hl, w2⟩ := withD_of w1
  have ad := avD_at av ed
  refine ⟨by rw [← ad.length]; exact Nat.le_trans hl (by decide), fun p np => c _ _ ?_⟩
  exact OpPost.res S1 e1 p1 (R := fun t => t = .fz (.tup ds)) (OpPost.tup S1.sub np ad rfl) fun t e => e ▸ w2
theorem de_lst (ha : DA X pa es ta) : DE X pa (.List es pos) (dLst ta) := by
  refine pe_imp (pe_lst ha) fun σ H Q ⟨h, G, fp, Q', S, w, c⟩ => ?_
  refine ⟨h, G, fp, _, S, w, fun vs H1 ⟨h1, G1, f1, as, S1, av, e1, p1, w1⟩ => ?_⟩
  obtain ⟨ds, ed, hl, w2⟩ := withD_of w1
  have ad := avD_at av ed
  refine ⟨by rw [← ad.length]; exact Nat.le_trans hl (by decide), fun p np => c _ _ ?_⟩
  exact OpPost.res S1 e1 p1 (R := fun t => t = .ls ds) (OpPost.list S1.sub np ad rfl) fun t e => e ▸ w2

/-! ### built-in calls -/
def dCB (k : DN) (ta : DTA) : DTE := fun G Q => ta G fun G1 as => withD as fun ds => k ds fun t => Q G1 (.t t)
theorem Ats.r {K : PySem.W.Frag} {h H : Hp} : ∀ {ds vs}, Ats K h ds vs → AtRs K h H ds vs
  | _, _, .nil => .nil
  | _, _, .cons a r => .cons (.of a) r.r
theorem cb_imp {K : PySem.W.Frag} {k : DN} {σ : L2.St} {H : Hp} {Q : VK} (w : sE K pa (dCB k ta) σ H Q) : tCB (rOfN K k) (sA K pa ta) σ H Q := by
  obtain ⟨h, G, fp, Q', S, w, c⟩ := w
  refine ⟨h, G, fp, _, S, w, fun vs H1 ⟨h1, G1, f1, as, S1, av, e1, p1, w1⟩ => ?_⟩
  obtain ⟨ds, ed, w2⟩ := withD_of w1
  exact ⟨h1, ds, _, S1.sub, (avD_at av ed).r, w2, fun v' H' o => c v' H' (o.res S1 e1 p1 fun t q => q)⟩
/-- one argument that is read, not frozen -/
def dCB1 (k : D1) (te : DTE) : DTE := dUn k te
theorem cb1_imp {K : PySem.W.Frag} {k : DN} {k1 : D1} {σ : L2.St} {H : Hp} {Q : VK} (hk : ∀ x R, k1 x R → k [x] R) (w : sE K pa (dCB1 k1 te) σ H Q) : tCB (rOfN K k) (tCons (sE K pa te) tNil) σ H Q := by
  obtain ⟨h, G, fp, Q', S, w, c⟩ := w
  refine ⟨h, G, fp, _, S, w, fun v H1 ⟨h1, G1, f1, va, fva, r1, w1⟩ => ?_⟩
  obtain ⟨x, ax, w2⟩ := r1.ov.rd r1.st w1
  exact ⟨h1, [x], _, r1.st.sub, .cons ax .nil, hk _ _ w2, fun v' H' o => c v' H' (o.res r1.st r1.drop r1.pu fun t q => q)⟩
end
end DL

/-! A def's promise where no repr is under way around it. -/
namespace DL
open PySem PySem.Spec PyProof.Rows L2

/-- the promise, asked where nothing is being shown -/
structure FnG (P : Program) (w : World) (K : PySem.W.Frag) (mg : Str → Option Value) (base : Heap) (k : Nat) (f : Addr) (fd : FuncData) (ps : List Str) (sp : Sp) : Prop where
  len : ∀ vs H Q E, sp vs H Q E → vs.length = ps.length
  run : ∀ (A : Around) (outer : List Env) (s : Shared) (H : Hp) (args : Args) (us : List Value) (vs : List V) (Q : VK) (E : XK), A.guards = some [] → Room k A → Env0 P w K mg base A outer s H →
    BindsTo s fd args (ps.zip us) → Vals vs us → sp vs H Q E → codeAny (model P w) A (.call (.ref f) args) (CR C8.CX0 outer P w H s Q E) s
/-- a def of the text by its body -/
theorem fnG_of {P : Program} {w : World} {K : PySem.W.Frag} {mg : Str → Option Value} {base : Heap} {x qual : Str} {st : Stmt} {f : Addr} {fd : FuncData} {N ps : List Str} {k : Nat} {sp : Sp} (F : C8.Fun K x qual st f fd) (S : FnScope N ps (C8.fnScope st))
    (len : ∀ vs H Q E, sp vs H Q E → vs.length = ps.length)
    (hbody : ∀ (cdv : Value) (A : Around) (outer : List Env) (s : Shared) (H : Hp) (vs : List V) (Q : VK) (E : XK), A.guards = some [] → Room k (A.deeper (envOfC qual (C8.fnScope st) s.heap.objs.size f cdv)) → sp vs H Q E →
      ∃ t, PSs (cxOf C8.CX0 P w K mg base N qual (C8.fnScope st) f cdv A outer s H E).nox (C8.fnBody st) t ∧ t { nx := fun _ H' => Q .non H', rt := Q } (L2.start N vs) H) : FnG P w K mg base (k + 1) f fd ps sp := by
  obtain ⟨oc, od, dV, kV, doc, pm, an, cdv, ct, osl, rfl, lk, code⟩ := F.ex
  refine ⟨len, fun A outer s H args us vs Q E quiet room e0 bd rel asks => ?_⟩
  have many := len _ _ _ _ asks
  have inK : K.In s.heap := e0.mod.kin.keeps fun b o q => (e0.bs b o q).1
  have names : ∀ y ∈ ps.zip us, (C8.fnScope st).names.lookup y.1 = some .local ∨ ((C8.fnScope st).names.lookup y.1 = some .cell ∧ ((cellsFrom (s.heap.objs.size + 1) (C8.fnScope st).names []).lookup y.1).isSome = true) := by
    rintro ⟨n, u⟩ m
    refine (S.par n (List.of_mem_zip m).1).imp id fun q => ⟨q, PySem.W.cellsFrom_some _ _ _ (.inl q)⟩
  refine codeAny_call_function room.depth (inK _ _ lk) rfl S.co S.gen rfl (PySem.W.codeRec_of inK code) (bd _ _ _ _ (wpAny_newFunctionEnv_cells S.kind names fun env he s1 x => ?_))
  subst he
  obtain ⟨t, pt, got⟩ := hbody cdv A outer s H vs Q E quiet (room.deeper _) asks
  have start0 : Inv (cxOf C8.CX0 P w K mg base N qual (C8.fnScope st) f cdv A outer s H E) [] (L2.start N vs) H s1 := inv_start S room.hd e0 many rel x
  refine ⟨(e0.mod.nolimit.keeps fun b o q => (e0.bs b o q).1).keeps x.toInCall.keep, codeAny_func (wpAny_mono (pt.nox.run [] s1 (L2.start N vs) H _ start0 got) (fun fl s' hs => ?_) fun e s' q => q)⟩
  cases fl with
  | ret u => obtain ⟨v, σ', H', J, rv, q⟩ := hs; exact ⟨v, H', J.os, J.bare, J.base, J.hok, rv, q⟩
  | next => obtain ⟨σ', H', J, q⟩ := hs; exact ⟨.non, H', J.os, J.bare, J.base, J.hok, rfl, q⟩
  | brk => obtain ⟨_, _, _, q⟩ := hs; exact q.elim
  | cont => obtain ⟨_, _, _, q⟩ := hs; exact q.elim
/-- a def that may be called by its name -/
def CalG (P : Program) (w : World) (K : PySem.W.Frag) (mg : Str → Option Value) (base : Heap) (k : Nat) (x : Str) (sp : Sp) : Prop :=
  ∃ (f : Addr) (fd : FuncData) (ps : List Str), FnG P w K mg base k f fd ps sp ∧ mg x = some (.ref f) ∧ PySem.W.keepIn K (.ref f) = true ∧ Binds K fd ps []
section
variable {X : Cx} {k j : Nat} {x : Str} {sp : Sp} {p pos : Pos} {e : Expr} {es : List Expr} {t : TA}
theorem runG {f : Addr} {fd : FuncData} {ps : List Str} {pins : List (Addr × Obj)} {σ : L2.St} {H : Hp} {s : Shared} {Q : VK} {us : List Value} {vs : List V} (F : FnG X.prog X.w X.K X.mg X.base k f fd ps sp) (hgd : X.A.guards = some []) (hr : Room k X.A) (hb : Binds X.K fd ps [])
    (I : Inv X pins σ H s) (r : Vals vs us) (h : sp vs H Q C8.E0) : wpAny (model X.prog X.w) X.A (call (.ref f) us) (EP X pins σ Q) X.xe s := by
  have bd := hb s us I.kIn (by rw [List.append_nil, ← r.length]; exact F.len _ _ _ _ h)
  rw [List.append_nil] at bd
  refine wpAny_call (codeAny_mono (F.run X.A X.stack s H _ us vs Q C8.E0 hgd hr I.env0 bd r h) fun res s' q => ?_)
  match res, q with
  | .ok (.ret u), q => exact I.after q
  | .ok .next, q => exact False.elim q
  | .ok .brk, q => exact False.elim q
  | .ok .cont, q => exact False.elim q
  | .error e, q => exact False.elim q
theorem pe_g (c : CalG X.prog X.w X.K X.mg X.base k x sp) (hgd : X.A.guards = some []) (hr : Room j X.A) (hk : k ≤ j) (hg : Gl X x) (ha : PA X (e :: es) t)
    (hdb : (x == ("__debug__" : Str)) = false := by decide) (he : starEach (e :: es) X.env = (false, eval e X.env) :: starEach es X.env := by rfl) (hpl : (backTo pos (starEach es X.env)).any (·.1) = false := by rfl) :
    PE X (.Call (.Name x p) (e :: es) [] pos) (tCall sp [] C8.E0 t) := by
  obtain ⟨f, fd, ps, F, hm, kp, b⟩ := c
  refine ⟨fun pins s σ H Q I w => wpAny_Call_Name_kw (ld_glob I hg hm ?_ hdb)⟩
  refine PySem.W.callWith_K (h₀ := X.base) I.ok.mod.kin kp (thn (ha.run pos pins s σ H _ I w) fun us s1 got => ?_) he hpl
  obtain ⟨vs, H1, J, r, q⟩ := got
  have q : sp (vs ++ []) H1 Q C8.E0 := q
  rw [List.append_nil] at q
  exact ⟨J.kIn, runG F hgd (hr.mono hk) b J r q⟩
end
end DL

/-! Calls of own defs, statements, loops, a def by its body. -/
namespace DL
open PySem PySem.Spec L2

/-! ### what a def promises, over data -/
abbrev FS := List T → (En → T → Prop) → Prop
def spOf (K : PySem.W.Frag) (n m : Nat) (F : FS) : Sp := fun vs H Q _ => vs.length = n ∧ ∃ h ts fp R, Sub h H ∧ Owns K h H ts vs fp ∧ fp.Nodup ∧ F ts R ∧
  ∀ v H' h' outs t fo fv, Sub h' H' → OwnE K h' H' outs ((vs.take m).map some) fo → Own K h' H' t v fv → (fo ++ fv).Nodup → Ext h H fp h' H' (fo ++ fv) → R outs t → Q v H'
def lendE : En → List AV → Option (List T × En)
  | G, [] => some ([], G)
  | G, .d x :: r => (lendE G r).map fun p => (.fz x :: p.1, p.2)
  | G, .sl i :: r => (match G[i]? with | some (some t) => (lendE (G.set i none) r).map fun p => (t :: p.1, p.2) | _ => none)
def backE : En → List AV → En → En
  | G, .sl i :: r, o :: outs => backE (G.set i o) r outs
  | G, .d _ :: r, _ :: outs => backE G r outs
  | G, _, _ => G
section
variable {K : PySem.W.Frag} {h H h' H' : Hp}
theorem set_same {α : Type} {l : List α} {i : Nat} {a : α} (e : l[i]? = some a) : l.set i a = l := by
  obtain ⟨hi, rfl⟩ := List.getElem?_eq_some_iff.mp e
  exact List.set_getElem_self hi
theorem OwnE.store {G : En} {σ : L2.St} {fp fc : List Addr} {i : Nat} {t : T} {v : V} (o : OwnE K h H G σ fp) (hi : i < G.length) (ot : Own K h H t v fc) (nd : (fp ++ fc).Nodup) :
    ∃ fp', OwnE K h H (G.set i (some t)) (σ.set i (some v)) fp' ∧ fp'.Nodup ∧ ∀ a ∈ fp', a ∈ fp ++ fc := by
  obtain ⟨f1, o1, s1⟩ := OwnE.cut i (some v) o
  obtain ⟨f2, o2, p2⟩ := o1.put (by rw [List.getElem?_set_self hi]) ot
  rw [List.set_set, List.set_set] at o2
  have sl : (f1 ++ fc).Sublist (fp ++ fc) := s1.append (.refl _)
  exact ⟨f2, o2, p2.nodup_iff.mpr (sl.nodup nd), fun a m => sl.subset (p2.mem_iff.mp m)⟩
theorem lend_ok {σ : L2.St} : ∀ {as : List AV} {vs : List V} {G : En} {fp : List Addr} {ts : List T} {Gr : En}, AVs K h σ as vs → OwnE K h H G σ fp → lendE G as = some (ts, Gr) →
    ∃ fa fr, Owns K h H ts vs fa ∧ OwnE K h H Gr σ fr ∧ (fa ++ fr).Perm fp
  | _, _, G, fp, _, _, .nil, o, e => by cases e; exact ⟨[], fp, .nil, o, .refl _⟩
  | _, _, G, fp, _, _, .d a r, o, e => by
    simp only [lendE, Option.map_eq_some_iff, Prod.mk.injEq] at e
    obtain ⟨⟨ts, Gr⟩, e1, rfl, rfl⟩ := e
    obtain ⟨fa, fr, o1, o2, p⟩ := lend_ok r o e1
    exact ⟨[] ++ fa, fr, .cons (.fz a) o1, o2, p⟩
  | .sl i :: _, v :: _, G, fp, _, _, .sl ev r, o, e => by
    simp only [lendE] at e
    split at e
    · rename_i t eg
      simp only [Option.map_eq_some_iff, Prod.mk.injEq] at e
      obtain ⟨⟨ts, Gr⟩, e1, rfl, rfl⟩ := e
      obtain ⟨f1, fc, f2, ef, oc, _, cut⟩ := o.slot eg ev
      have o' := cut (some v)
      rw [set_same ev] at o'
      obtain ⟨fa, fr, o1, o2, p⟩ := lend_ok r o' e1
      refine ⟨fc ++ fa, fr, .cons oc o1, o2, ?_⟩
      rw [ef, List.append_assoc, List.append_assoc]
      exact (List.Perm.append_left fc p).trans (by rw [← List.append_assoc, ← List.append_assoc]; exact List.Perm.append_right f2 List.perm_append_comm)
    · cases e
theorem back_ok {σ : L2.St} : ∀ {as : List AV} {vs : List V} (m : Nat) {G : En} {fp fo : List Addr} {outs : En}, AVs K h' σ as vs → OwnE K h H G σ fp → OwnE K h H outs ((vs.take m).map some) fo → (fp ++ fo).Nodup →
    ∃ f', OwnE K h H (backE G as outs) σ f' ∧ f'.Nodup ∧ ∀ a ∈ f', a ∈ fp ++ fo
  | _, _, _, G, fp, fo, outs, .nil, o, oo, nd => ⟨fp, by cases outs <;> exact o, (List.nodup_append.mp nd).1, fun a m => by simp [m]⟩
  | _, _, 0, G, fp, fo, outs, .d a r, o, oo, nd => by
    cases oo
    exact ⟨fp, o, (List.nodup_append.mp nd).1, fun a m => by simp [m]⟩
  | _, _, 0, G, fp, fo, outs, .sl a r, o, oo, nd => by
    cases oo
    exact ⟨fp, o, (List.nodup_append.mp nd).1, fun a m => by simp [m]⟩
  | _, _, m + 1, G, fp, fo, _, .d a r, o, .no oo, nd => by
    have q := back_ok m r o oo nd
    exact q
  | _, _, m + 1, G, fp, _, _, .d a r, o, .so (f1 := g1) (f2 := g2) ot oo, nd => by
    have sl : (fp ++ g2).Sublist (fp ++ (g1 ++ g2)) := (List.Sublist.refl fp).append (List.sublist_append_right g1 g2)
    obtain ⟨f', o2, n2, s2⟩ := back_ok m r o oo (sl.nodup nd)
    exact ⟨f', o2, n2, fun a m => sl.subset (s2 a m)⟩
  | .sl i :: _, _, m + 1, G, fp, fo, _, .sl ev r, o, .no oo, nd => by
    obtain ⟨f1, o1, s1⟩ := OwnE.cut i (some _) o
    rw [set_same ev] at o1
    have sl : (f1 ++ fo).Sublist (fp ++ fo) := s1.append (.refl _)
    obtain ⟨f', o2, n2, s2⟩ := back_ok m r o1 oo (sl.nodup nd)
    exact ⟨f', o2, n2, fun a m => sl.subset (s2 a m)⟩
  | .sl i :: _, _, m + 1, G, fp, _, _, .sl ev r, o, .so (f1 := g1) (f2 := g2) ot oo, nd => by
    have hi : i < G.length := by
      rw [o.length]; exact (List.getElem?_eq_some_iff.mp ev).1
    rw [← List.append_assoc] at nd
    obtain ⟨f1, o1, n1, s1⟩ := o.store hi ot (List.nodup_append.mp nd).1
    rw [set_same ev] at o1
    have nd2 : (f1 ++ g2).Nodup := List.nodup_append.mpr ⟨n1, (List.nodup_append.mp nd).2.1, fun x hx y hy => (List.nodup_append.mp nd).2.2 x (s1 x hx) y hy⟩
    obtain ⟨f', o2, n2, s2⟩ := back_ok m r o1 oo nd2
    refine ⟨f', o2, n2, fun a ma => ?_⟩
    rcases List.mem_append.mp (s2 a ma) with q | q
    · have := s1 a q; simp at this ⊢; rcases this with z | z <;> simp [z]
    · simp [q]
end
/-- what holds behind a call: the parts that weren't lent stay -/
theorem call_ext {K : PySem.W.Frag} {h H h' H' : Hp} {σ : L2.St} {G Gr : En} {fp fa fr fn : List Addr} (S : Stt K h H G σ fp) (o : OwnE K h H Gr σ fr) (p : (fa ++ fr).Perm fp) (ex : Ext h H fa h' H' fn) (nd : fn.Nodup) :
    OwnE K h' H' Gr σ fr ∧ (fr ++ fn).Nodup ∧ Ext h H fp h' H' (fr ++ fn) := by
  have ndp : (fa ++ fr).Nodup := p.nodup_iff.mpr S.nd
  have dj : ∀ a ∈ fr, a ∉ fa := fun a m m2 => (List.nodup_append.mp ndp).2.2 a m2 a m rfl
  have sub : ∀ a ∈ fa, a ∈ fp := fun a m => p.mem_iff.mp (by simp [m])
  have subr : ∀ a ∈ fr, a ∈ fp := fun a m => p.mem_iff.mp (by simp [m])
  have hk : ∀ a ∈ fr, H' a = H a ∧ h' a = none := fun a m => by
    obtain ⟨n, u, e⟩ := o.there a m
    have hn0 : h' a = none := by
     cases q : h' a with
     | none => rfl
     | some z =>
      rcases ex.hn a z q with r | r | r
      · rw [n] at r; cases r
      · exact (dj a m r).elim
      · exact (r.no e (o.nobad a m)).elim
    exact ⟨by rw [e]; exact ex.stay hn0 (dj a m) e, hn0⟩
  refine ⟨o.move ex.gh (fun a m => (hk a m).1) fun a m => (hk a m).2, List.nodup_append.mpr ⟨(List.nodup_append.mp ndp).2.1, nd, fun x hx y hy e => ?_⟩, ⟨ex.gh, fun a u m e => ex.fr a u (fun z => m (sub a z)) e, fun a m => ?_, fun a u e => ?_⟩⟩
  · subst e
    rcases ex.nw x hy with q | q
    · exact dj x hx q
    · obtain ⟨_, u, e⟩ := o.there x hx
      rw [q] at e; cases e
  · rcases List.mem_append.mp m with m | m
    · exact .inl (subr a m)
    · rcases ex.nw a m with q | q
      · exact .inl (sub a q)
      · exact .inr q
  · rcases ex.hn a u e with q | q | q
    · exact .inl q
    · exact .inr (.inl (sub a q))
    · exact .inr (.inr q)

def dCall (n : Nat) (F : FS) (ta : DTA) : DTE := fun G Q => ta G fun G1 as => as.length = n ∧ (match lendE G1 as with
  | some p => F p.1 fun outs t => Q (backE p.2 as outs) (.t t)
  | none => False)
/-- .. nothing lent -/
def dCallP (n : Nat) (F : FS) (ta : DTA) : DTE := fun G Q => ta G fun G1 as => withD as fun ds => ds.length = n ∧ F (ds.map .fz) fun _ t => Q G1 (.t t)
theorem Ats.owns {K : PySem.W.Frag} {h H : Hp} : ∀ {ds vs}, Ats K h ds vs → Owns K h H (ds.map .fz) vs []
  | _, _, .nil => .nil
  | _, _, .cons a r => by simpa using Owns.cons (.fz a) (Ats.owns r)
section
variable {X : Cx} {pa : Bool} {ta : DTA} {x : Str} {n m k j : Nat} {F : FS} {e : Expr} {es : List Expr} {p pos : Pos}
theorem AVs.length {K : PySem.W.Frag} {h : Hp} {σ : L2.St} : ∀ {as vs}, AVs K h σ as vs → as.length = vs.length
  | _, _, .nil => rfl
  | _, _, .d _ r => by simp [AVs.length r]
  | _, _, .sl _ r => by simp [AVs.length r]
def Fn (P : Program) (w : World) (K : PySem.W.Frag) (mg : Str → Option Value) (base : Heap) (k : Nat) (x : Str) (n m : Nat) (F : FS) : Prop := CalG P w K mg base k x (spOf K n m F)
/-- the call's end -/
theorem call_end {K : PySem.W.Frag} {σ : L2.St} {h1 H1 : Hp} {G1 : En} {f1 : List Addr} {as : List AV} {vs : List V} {h H : Hp} {G : En} {fp : List Addr} {Q : VK} {Q' : En → Vl → Prop} {E : XK} (S1 : Stt K h1 H1 G1 σ f1) (av : AVs K h1 σ as vs) (e1 : Ext h H fp h1 H1 f1) (hn : as.length = n)
    (w : match lendE G1 as with | some p => F p.1 fun outs t => Q' (backE p.2 as outs) (.t t) | none => False) (c : ∀ v H', EPost K false σ h H G fp Q' v H' → Q v H') : spOf K n m F vs H1 Q E := by
  split at w
  · rename_i pr ep
    obtain ⟨ts, Gr⟩ := pr
    obtain ⟨fa, fr, oa, or, pm⟩ := lend_ok av S1.env ep
    have ndp : (fa ++ fr).Nodup := pm.nodup_iff.mpr S1.nd
    refine ⟨by rw [← av.length]; exact hn, h1, ts, fa, _, S1.sub, oa, (List.nodup_append.mp ndp).1, w, fun v H' h' outs t fo fv sb oo ot nd ex q => c v H' ?_⟩
    obtain ⟨or', nd2, ex2⟩ := call_ext S1 or pm ex nd
    rw [← List.append_assoc] at nd2
    obtain ⟨f', ob, nb, sbs⟩ := back_ok m av or' oo (List.nodup_append.mp nd2).1
    have nd3 : (f' ++ fv).Nodup := List.nodup_append.mpr ⟨nb, (List.nodup_append.mp nd2).2.1, fun y hy z hz => (List.nodup_append.mp nd2).2.2 y (sbs y hy) z hz⟩
    refine ⟨h', _, f', .t t, fv, ⟨⟨sb, ob, nb⟩, .t ot, nd3, e1.trans (ex2.weak fun a ma => ?_), fun z => by cases z⟩, q⟩
    rcases List.mem_append.mp ma with q | q
    · have := sbs a q; simp at this ⊢; rcases this with z | z <;> simp [z]
    · simp [q]
  · exact w.elim
theorem de_call (f : Fn X.prog X.w X.K X.mg X.base k x n m F) (hgd : X.A.guards = some []) (hr : Room j X.A) (hk : k ≤ j) (hg : Gl X x) (ha : DA X pa (e :: es) ta)
    (hdb : (x == ("__debug__" : Str)) = false := by decide) (he : starEach (e :: es) X.env = (false, eval e X.env) :: starEach es X.env := by rfl) (hpl : (backTo pos (starEach es X.env)).any (·.1) = false := by rfl) :
    DE X false (.Call (.Name x p) (e :: es) [] pos) (dCall n F ta) := by
  refine pe_imp (pe_g f hgd hr hk hg ha hdb he hpl) fun σ H Q ⟨h, G, fp, Q', S, w, c⟩ => ?_
  refine ⟨h, G, fp, _, S, w, fun vs H1 ⟨h1, G1, f1, as, S1, av, e1, p1, hl, w1⟩ => ?_⟩
  show spOf X.K n m F (vs ++ []) H1 Q C8.E0
  rw [List.append_nil]
  exact call_end S1 av e1 hl w1 c
theorem de_callP (f : Fn X.prog X.w X.K X.mg X.base k x n 0 F) (hgd : X.A.guards = some []) (hr : Room j X.A) (hk : k ≤ j) (hg : Gl X x) (ha : DA X pa (e :: es) ta)
    (hdb : (x == ("__debug__" : Str)) = false := by decide) (he : starEach (e :: es) X.env = (false, eval e X.env) :: starEach es X.env := by rfl) (hpl : (backTo pos (starEach es X.env)).any (·.1) = false := by rfl) :
    DE X pa (.Call (.Name x p) (e :: es) [] pos) (dCallP n F ta) := by
  refine pe_imp (pe_g f hgd hr hk hg ha hdb he hpl) fun σ H Q ⟨h, G, fp, Q', S, w, c⟩ => ?_
  refine ⟨h, G, fp, _, S, w, fun vs H1 ⟨h1, G1, f1, as, S1, av, e1, p1, w1⟩ => ?_⟩
  show spOf X.K n 0 F (vs ++ []) H1 Q C8.E0
  rw [List.append_nil]
  obtain ⟨ds, ed, hl, w2⟩ := withD_of w1
  have ad := avD_at av ed
  refine ⟨by rw [← ad.length]; exact hl, h1, _, [], _, S1.sub, ad.owns, .nil, w2, fun v H' h' outs t fo fv sb oo ot nd ex q => c v H' ?_⟩
  obtain ⟨or', nd2, ex2⟩ := call_ext S1 S1.env (by simp) ex nd
  cases oo
  simp only [List.nil_append] at nd2 ex2
  refine ⟨h', G1, f1, .t t, fv, ⟨⟨sb, or', S1.nd⟩, .t ot, nd2, e1.trans ex2, fun z => ?_⟩, q⟩
  obtain ⟨q1, q2, q3⟩ := p1 z
  refine ⟨q1, q2, fun a ma => ?_⟩
  obtain ⟨nn, u, eu⟩ := S1.env.there a (q2 ▸ ma)
  have hn0 : h' a = none := by
    cases q : h' a with
    | none => rfl
    | some z =>
      rcases ex.hn a z q with r | r | r
      · rw [nn] at r; cases r
      · cases r
      · exact (r.no eu (S1.env.nobad a (q2 ▸ ma))).elim
  rw [ex.stay hn0 (fun z => nomatch z) eu, ← eu]
  exact q3 a ma
end

/-! ### statements -/
structure DEnds where
  nx : En → Prop
  rt : En → Vl → Prop
abbrev DTS := DEnds → En → Prop
def NPost (K : PySem.W.Frag) (ob : L2.St → L2.St) (σ : L2.St) (h H : Hp) (fp : List Addr) (P : En → Prop) : L2.St → Hp → Prop := fun σ' H' => ∃ h' G' fp', Stt K h' H' G' σ' fp' ∧ Ext h H fp h' H' fp' ∧ ob σ' = ob σ ∧ P G'
def RPost (K : PySem.W.Frag) (ob : L2.St → L2.St) (σ : L2.St) (h H : Hp) (fp : List Addr) (P : En → Vl → Prop) : VK := fun v H' => ∃ h' G' fp' σ' vl fv, Stt K h' H' G' σ' fp' ∧ OwnV K h' H' G' σ' vl v fv ∧ (fp' ++ fv).Nodup ∧ Ext h H fp h' H' (fp' ++ fv) ∧ ob σ' = ob σ ∧ P G' vl
def sS (K : PySem.W.Frag) (m : Nat) (t : DTS) : TS := fun D σ H => ∃ h G fp Ds, Stt K h H G σ fp ∧ t Ds G ∧ (∀ σ' H', NPost K (List.take m) σ h H fp Ds.nx σ' H' → D.nx σ' H') ∧ ∀ v H', RPost K (List.take m) σ h H fp Ds.rt v H' → D.rt v H'
def DS (X : Cx) (m : Nat) (st : Stmt) (t : DTS) : Prop := PS X st (sS X.K m t)
def DSs (X : Cx) (m : Nat) (st : List Stmt) (t : DTS) : Prop := PSs X st (sS X.K m t)
def dNext : DTS := fun Ds G => Ds.nx G
def dSeq (t u : DTS) : DTS := fun Ds G => t ⟨u Ds, Ds.rt⟩ G
def dIf (c : DTT) (t u : DTS) : DTS := fun Ds G => c G fun G1 b => if b = true then t Ds G1 else u Ds G1
def dExpr (te : DTE) : DTS := fun Ds G => te G fun G1 _ => Ds.nx G1
def dRet (te : DTE) : DTS := fun Ds G => te G Ds.rt
theorem NPost.chain {K : PySem.W.Frag} {ob : L2.St → L2.St} {σ σ1 : L2.St} {h H h1 H1 : Hp} {fp f1 : List Addr} {P : En → Prop} {σ' : L2.St} {H' : Hp} (e : Ext h H fp h1 H1 f1) (tk : ob σ1 = ob σ) (n : NPost K ob σ1 h1 H1 f1 P σ' H') : NPost K ob σ h H fp P σ' H' := by
  obtain ⟨h', G', fp', S, ex, t, q⟩ := n
  exact ⟨h', G', fp', S, e.trans ex, t.trans tk, q⟩
theorem RPost.chain {K : PySem.W.Frag} {ob : L2.St → L2.St} {σ σ1 : L2.St} {h H h1 H1 : Hp} {fp f1 : List Addr} {P : En → Vl → Prop} {v : V} {H' : Hp} (e : Ext h H fp h1 H1 f1) (tk : ob σ1 = ob σ) (n : RPost K ob σ1 h1 H1 f1 P v H') : RPost K ob σ h H fp P v H' := by
  obtain ⟨h', G', fp', σ', vl, fv, S, ov, nd, ex, t, q⟩ := n
  exact ⟨h', G', fp', σ', vl, fv, S, ov, nd, e.trans ex, t.trans tk, q⟩
section
variable {X : Cx} {pa pb : Bool} {m : Nat} {st : Stmt} {rest a b : List Stmt} {t u : DTS} {c e : Expr} {tc : DTT} {te : DTE} {pos : Pos}
theorem dss_nil : DSs X m [] dNext := pss_imp pss_nil fun D σ H ⟨h, G, fp, Ds, S, w, kn, kr⟩ => kn σ H ⟨h, G, fp, S, Ext.refl h H fp, rfl, w⟩
theorem seq_imp {K : PySem.W.Frag} {D : Ends} {σ : L2.St} {H : Hp} (w : sS K m (dSeq t u) D σ H) : tSeq (sS K m t) (sS K m u) D σ H := by
  obtain ⟨h, G, fp, Ds, S, w, kn, kr⟩ := w
  exact ⟨h, G, fp, _, S, w, fun σ' H' ⟨h1, G1, f1, S1, e1, t1, w1⟩ => ⟨h1, G1, f1, Ds, S1, w1, fun σ2 H2 n => kn σ2 H2 (n.chain e1 t1), fun v H2 n => kr v H2 (n.chain e1 t1)⟩, kr⟩
theorem dss_cons (h1 : DS X m st t) (h2 : DSs X m rest u) : DSs X m (st :: rest) (dSeq t u) := pss_imp (pss_cons h1 h2) fun _ _ _ w => seq_imp w
theorem dss_one (h1 : DS X m st t) : DSs X m [st] t := pss_one h1
theorem ds_pass : DS X m (.Pass pos) dNext := ps_imp ps_pass fun D σ H ⟨h, G, fp, Ds, S, w, kn, kr⟩ => kn σ H ⟨h, G, fp, S, Ext.refl h H fp, rfl, w⟩
theorem ds_if (hc : DT X pa c tc) (ha : DSs X m a t) (hb : DSs X m b u) : DS X m (.If c a b pos) (dIf tc t u) := by
  refine ps_imp (ps_if hc ha hb) fun D σ H ⟨h, G, fp, Ds, S, w, kn, kr⟩ => ?_
  refine ⟨h, G, fp, _, S, w, fun b H1 ⟨h1, G1, f1, S1, e1, p1, w1⟩ => ?_⟩
  cases b with
  | true =>
    rw [if_pos rfl] at w1 ⊢
    exact ⟨h1, G1, f1, Ds, S1, w1, fun σ2 H2 n => kn σ2 H2 (n.chain e1 rfl), fun v H2 n => kr v H2 (n.chain e1 rfl)⟩
  | false =>
    rw [if_neg Bool.false_ne_true] at w1 ⊢
    exact ⟨h1, G1, f1, Ds, S1, w1, fun σ2 H2 n => kn σ2 H2 (n.chain e1 rfl), fun v H2 n => kr v H2 (n.chain e1 rfl)⟩
theorem ds_expr (he : DE X pa e te) (hs : swapsWith e none pos.line X.env = pure false := by rfl) : DS X m (.Expr e pos) (dExpr te) := by
  refine ps_imp (ps_expr he hs) fun D σ H ⟨h, G, fp, Ds, S, w, kn, kr⟩ => ?_
  exact ⟨h, G, fp, _, S, w, fun v H1 ⟨h1, G1, f1, va, fva, r1, w1⟩ => kn σ H1 ⟨h1, G1, f1, r1.st, r1.drop, rfl, w1⟩⟩
theorem ds_ret (he : DE X pa e te) : DS X m (.Return (some e) pos) (dRet te) := by
  refine ps_imp (ps_ret he) fun D σ H ⟨h, G, fp, Ds, S, w, kn, kr⟩ => ?_
  exact ⟨h, G, fp, _, S, w, fun v H1 ⟨h1, G1, f1, va, fva, r1, w1⟩ => kr v H1 ⟨h1, G1, f1, σ, va, fva, r1.st, r1.ov, r1.nd, r1.ex, rfl, w1⟩⟩

/-- a statement with a word behind it -/
def dCut (t : DTS) : DTS := fun Ds G => ∃ P : En → Prop, t ⟨P, Ds.rt⟩ G ∧ ∀ G', P G' → Ds.nx G'
theorem ds_cut (h : DS X m st t) : DS X m st (dCut t) := ps_imp h fun D σ H ⟨h, G, fp, Ds, S, ⟨P, w, imp⟩, kn, kr⟩ =>
  ⟨h, G, fp, _, S, w, fun σ' H' ⟨h', G', fp', S', e', t', q⟩ => kn σ' H' ⟨h', G', fp', S', e', t', imp G' q⟩, kr⟩

/-! ### targets -/
abbrev DTG := D → En → (En → Prop) → Prop
def sG (K : PySem.W.Frag) (ob : L2.St → L2.St) (g : DTG) : TG := fun v σ H R => ∃ h G fp d Q, Stt K h H G σ fp ∧ At K h d v ∧ g d G Q ∧ ∀ σ' H', NPost K ob σ h H fp Q σ' H' → R σ' H'
def DG (X : Cx) (ob : L2.St → L2.St) (tg : Expr) (g : DTG) : Prop := PG X tg (sG X.K ob g)
def gN (i : Nat) : DTG := fun d G Q => i < G.length ∧ Q (G.set i (some (.fz d)))
theorem take_set {α : Type} {l : List α} {m i : Nat} {x : α} (h : m ≤ i) : (l.set i x).take m = l.take m := by
  rw [List.take_set]
  exact List.set_eq_of_length_le (by simp; omega)
theorem Stt.store {K : PySem.W.Frag} {h H : Hp} {G : En} {σ : L2.St} {fp fc : List Addr} {i : Nat} {t : T} {v : V} (S : Stt K h H G σ fp) (hi : i < G.length) (ot : Own K h H t v fc) (nd : (fp ++ fc).Nodup) :
    ∃ fp', Stt K h H (G.set i (some t)) (σ.set i (some v)) fp' ∧ ∀ a ∈ fp', a ∈ fp ++ fc := by
  obtain ⟨f', o, n, s⟩ := S.env.store hi ot nd
  exact ⟨f', ⟨S.sub, o, n⟩, s⟩
theorem pg_imp {tg : Expr} {g g' : TG} (h : PG X tg g) (k : ∀ v σ H R, g' v σ H R → g v σ H R) : PG X tg g' := by
  obtain ⟨h⟩ := h
  exact ⟨fun pins s σ H v u Q I r q => h pins s σ H v u Q I r (k _ _ _ _ q)⟩
end
end DL

/-! Targets, assignments, subscripts, loops, a def by its body. -/
namespace DL
open PySem PySem.Spec L2

/-! ### targets -/
abbrev DTGs := List D → En → (En → Prop) → Prop
def sGs (K : PySem.W.Frag) (ob : L2.St → L2.St) (g : DTGs) : TGs := fun vs σ H R => ∃ h G fp ds Q, Stt K h H G σ fp ∧ Ats K h ds vs ∧ g ds G Q ∧ ∀ σ' H', NPost K ob σ h H fp Q σ' H' → R σ' H'
def DGs (X : Cx) (ob : L2.St → L2.St) (ts : List Expr) (g : DTGs) : Prop := PGs X ts (sGs X.K ob g)
def gsNil : DTGs := fun ds G Q => ds = [] ∧ Q G
def gsCons (g : DTG) (gs : DTGs) : DTGs := fun ds G Q => match ds with | [] => False | d :: r => g d G fun G1 => gs r G1 Q
def gT (n : Nat) (gs : DTGs) : DTG := fun d G Q => match d with | .tup ds => ds.length = n ∧ gs ds G Q | _ => False
section
variable {X : Cx} {ob : L2.St → L2.St} {pos : Pos} {e : Expr} {es : List Expr} {g : DTG} {gs : DTGs}
theorem pgs_imp {ts : List Expr} {g g' : TGs} (h : PGs X ts g) (k : ∀ v σ H R, g' v σ H R → g v σ H R) : PGs X ts g' := by
  obtain ⟨h⟩ := h
  exact ⟨fun pins s σ H v u Q I r q => h pins s σ H v u Q I r (k _ _ _ _ q)⟩
theorem dg_name {i : Nat} (p : PG X e (gName i)) (ho : ∀ σ x, ob (List.set σ i x) = ob σ) : DG X ob e (gN i) := pg_imp p fun v σ H R ⟨h, G, fp, d, Q, S, a, ⟨hi, w⟩, c⟩ => by
  obtain ⟨f', S', s⟩ := S.store hi (.fz a) (by simpa using S.nd)
  exact c _ H ⟨h, _, f', S', (Ext.refl h H fp).weak fun x mx => by simpa using s x mx, ho _ _, w⟩
theorem dgs_nil : DGs X ob [] gsNil := pgs_imp pgs_nil fun v σ H R ⟨h, G, fp, ds, Q, S, a, ⟨e, w⟩, c⟩ => by
  subst e
  cases a
  exact ⟨rfl, c _ H ⟨h, G, fp, S, Ext.refl h H fp, rfl, w⟩⟩
theorem dgs_cons (h1 : DG X ob e g) (h2 : DGs X ob es gs) (hc : (assignEach (e :: es) X.env).map (·.2) = assign e X.env :: (assignEach es X.env).map (·.2) := by rfl) : DGs X ob (e :: es) (gsCons g gs) := pgs_imp (pgs_cons h1 h2 hc) fun vs σ H R ⟨h, G, fp, ds, Q, S, a, w, c⟩ => by
  cases a with
  | nil => exact w.elim
  | cons a r =>
    refine ⟨_, _, rfl, h, G, fp, _, _, S, a, w, fun σ1 H1 ⟨h1, G1, f1, S1, e1, t1, w1⟩ => ?_⟩
    exact ⟨h1, G1, f1, _, _, S1, r.mono e1.gh, w1, fun σ2 H2 n => c σ2 H2 (n.chain e1 t1)⟩
theorem dg_tup {k : Nat} {n : Nat} (hc : X.calm = true) (h : DGs X ob es gs) (hn : (assignEach es X.env).length = n := by rfl) (hst : (assignEach es X.env).findIdx? (·.1) = none := by rfl) : DG X ob (.Tuple es k pos) (gT n gs) :=
  pg_imp (pg_tup hc h hn hst) fun v σ H R ⟨h, G, fp, d, Q, S, a, w, c⟩ => by
    cases a with
    | tup ea ra => exact ⟨_, _, rfl, SqT.of (S.sub.tup ea), by rw [← ra.length]; exact w.1, h, G, fp, _, _, S, ra, w.2, c⟩
    | _ => exact w.elim
end

/-! ### assignments -/
def setW (G : En) (v : Vl) (i : Nat) (k : En → Prop) : Prop := match v with
  | .t t => i < G.length ∧ k (G.set i (some t))
  | .pk j p => fzW G (.pk j p) fun G2 d => i < G2.length ∧ k (G2.set i (some (.fz d)))
def dSet (i : Nat) (te : DTE) : DTS := fun Ds G => te G fun G1 v => setW G1 v i Ds.nx
/-- a target that takes frozen data -/
def dAsg (te : DTE) (g : DTG) : DTS := fun Ds G => te G fun G1 v => fzW G1 v fun G2 d => g d G2 Ds.nx
section
variable {X : Cx} {pa pb : Bool} {m : Nat} {e a b tg : Expr} {te ta tb : DTE} {g : DTG} {pos : Pos}
theorem set_imp {K : PySem.W.Frag} {i : Nat} {D : Ends} {σ : L2.St} {H : Hp} (hm : m ≤ i) (w : sS K m (dSet i te) D σ H) : tAsg (sE K pa te) (gName i) D σ H := by
  obtain ⟨h, G, fp, Ds, S, w, kn, kr⟩ := w
  refine ⟨h, G, fp, _, S, w, fun v H1 ⟨h1, G1, f1, va, fva, r1, w1⟩ => ?_⟩
  refine kn _ H1 ?_
  cases va with
  | t t =>
    cases r1.ov with
    | t o =>
      obtain ⟨f', S', s⟩ := r1.st.store w1.1 o r1.nd
      exact ⟨h1, _, f', S', r1.ex.weak s, take_set hm, w1.2⟩
  | pk j p =>
    have w1 : fzW G1 (.pk j p) (fun G2 d => i < G2.length ∧ Ds.nx (G2.set i (some (.fz d)))) := w1
    obtain ⟨h2, G2, f2, d, S2, a2, e2, hi, q⟩ := r1.fz w1
    obtain ⟨f', S', s⟩ := S2.store hi (.fz a2) (by simpa using S2.nd)
    exact ⟨h2, _, f', S', e2.weak fun x mx => by simpa using s x mx, take_set hm, q⟩
theorem ds_set {i : Nat} {x : Str} {pos' : Pos} (hN : X.N.Nodup) (hi : X.N[i]? = some x) (hx : Loc X.env.scope x) (he : DE X pa e te) (hm : m ≤ i) (hs : swapsWith e (some (.Name x pos')) pos.line X.env = pure false := by rfl) (hf : X.fn x = true ∨ X.env.scope.names.lookup x = some .local := by first | exact .inl rfl | exact .inr rfl | assumption) :
    DS X m (.Assign [.Name x pos'] e pos) (dSet i te) := ps_imp (ps_set hN hi hx he hs hf) fun _ _ _ w => set_imp hm w
theorem ds_asg (he : DE X pa e te) (hg : DG X (List.take m) tg g) (hs : swapsWithSole [tg] e pos.line X.env = pure false := by rfl) (hw : swappedStores [tg] e X.env = pure none := by rfl)
    (h1 : (assignEach [tg] X.env).map (·.2) = [assign tg X.env] := by rfl) : DS X m (.Assign [tg] e pos) (dAsg te g) := by
  refine ps_imp (ps_asg he hg hs hw h1) fun D σ H ⟨h, G, fp, Ds, S, w, kn, kr⟩ => ?_
  refine ⟨h, G, fp, _, S, w, fun v H1 ⟨h1, G1, f1, va, fva, r1, w1⟩ => ?_⟩
  obtain ⟨h2, G2, f2, d, S2, a2, e2, q⟩ := r1.fz w1
  exact ⟨h2, G2, f2, d, _, S2, a2, q, fun σ2 H2 n => kn σ2 H2 (n.chain e2 rfl)⟩

/-! ### subscripts -/
def keyOf : D → Option Key
  | .int i => some (.inl i)
  | .str x => some (.inr x)
  | _ => none
def keysOf : List D → Option (List Key)
  | [] => some []
  | d :: r => (match keyOf d, keysOf r with | some k, some ks => some (k :: ks) | _, _ => none)
def ixD : D2 := fun x y R => match x, y with
  | .lst ds, .int i => (match atI ds i with | some d => R (.fz d) | none => False)
  | .tup ds, .int i => (match atI ds i with | some d => R (.fz d) | none => False)
  | .scr ns, .int i => (match atI ns i with | some n => R (.fz (.int n)) | none => False)
  | .dK l, y => (match keyOf y with | some k => (match look l k with | some d => R (.fz d) | none => False) | none => False)
  | .dT l, .tup ds => (match keysOf ds with | some k => (match look l k with | some d => R (.fz d) | none => False) | none => False)
  | _, _ => False
theorem ix_dict (hu : X.A.units + 1 < cLine) : IxR X (fun x y H Q => ∃ a v, x = .ref a ∧ DGet H a y (some v) ∧ Q v H) := by
  rintro val sl pins s σ H x y v u Q I rx ry ⟨a, w, e, g, q⟩ plain
  subst e
  cases (show v = Value.ref a from rx)
  have isD := dict_typeIs I g
  have got : wpAny (model X.prog X.w) X.A (subscripted sl false (.ref a) u) (fun r t => wpAny (model X.prog X.w) X.A (letTemporaryGo val (.ref a) r >>= fun _ => pure r) (EP X pins σ Q) X.xe t) X.xe s :=
    plain ▸ wpAny_operating (thn (d_getItem hu I g ry fun z t J rz => ⟨w, H, J, rz, q⟩) fun r t ht => wpAny_bind (wpAny_letTemporaryGo (wpAny_pure ht)))
  unfold PyProof.Rows.subscriptTail
  rw [getitemInPython_of_ne isD.not_modules]
  refine wpAny_bind (wpAny_bind (wpAny_specialOf isD PySem.F.slot_dict_getitem.lookup ?_))
  first
    | exact wpAny_pure (wpAny_bind got)
    | exact wpAny_bind got
    | exact wpAny_bind (wpAny_pure (wpAny_bind got))
theorem Ats.get {K : PySem.W.Frag} {h : Hp} : ∀ {ds : List D} {vs : List V} {i : Nat} {d : D}, Ats K h ds vs → ds[i]? = some d → ∃ v, vs[i]? = some v ∧ At K h d v
  | _, _, _, _, .nil, e => by simp at e
  | _, _, 0, _, .cons a _, e => by simp at e; subst e; exact ⟨_, by simp, a⟩
  | _, _, i + 1, _, .cons _ r, e => by simpa using Ats.get r (by simpa using e)
theorem AtK.look {K : PySem.W.Frag} {h : Hp} : ∀ {l : List (Key × D)} {w : List (Key × V)} {k : Key}, AtK K h l w → (∀ d, DL.look l k = some d → ∃ v, valV w k = some v ∧ At K h d v) ∧ (DL.look l k = none → valV w k = none)
  | _, _, k, .nil => ⟨fun d e => (by simp [DL.look] at e), fun _ => rfl⟩
  | _, _, k, .cons (k := k') a r => by
    by_cases hk : k' = k
    · simp only [DL.look, if_pos hk, valV_pos (p := (k', _)) hk]
      exact ⟨fun d e => ⟨_, rfl, by cases e; exact a⟩, fun e => by cases e⟩
    · simp only [DL.look, if_neg hk, valV_neg (p := (k', _)) hk]
      exact AtK.look r
theorem AtT.look {K : PySem.W.Frag} {h : Hp} : ∀ {l : List (List Key × D)} {w : List (List Key × V)} {k : List Key}, AtT K h l w → (∀ d, DL.look l k = some d → ∃ v, valV w k = some v ∧ At K h d v) ∧ (DL.look l k = none → valV w k = none)
  | _, _, k, .nil => ⟨fun d e => (by simp [DL.look] at e), fun _ => rfl⟩
  | _, _, k, .cons (k := k') a r => by
    by_cases hk : k' = k
    · simp only [DL.look, if_pos hk, valV_pos (p := (k', _)) hk]
      exact ⟨fun d e => ⟨_, rfl, by cases e; exact a⟩, fun e => by cases e⟩
    · simp only [DL.look, if_neg hk, valV_neg (p := (k', _)) hk]
      exact AtT.look r
theorem keyOf_at {K : PySem.W.Frag} {h : Hp} {d : D} {k : Key} {v : V} (e : keyOf d = some k) (a : At K h d v) : v = kV k := by
  cases d <;> simp only [keyOf, Option.some.injEq] at e <;> first | (cases e; cases a; rfl) | cases e
theorem keyOf_atR {K : PySem.W.Frag} {h H : Hp} {d : D} {k : Key} {v : V} (e : keyOf d = some k) (a : AtR K h H d v) : v = kV k := by
  cases a with
  | of a => exact keyOf_at e a
  | ls _ _ => cases e
  | dk _ _ => cases e
  | dt _ _ => cases e
theorem keysOf_at {K : PySem.W.Frag} {h : Hp} : ∀ {ds : List D} {ks : List Key} {vs : List V}, keysOf ds = some ks → Ats K h ds vs → vs = ks.map kV
  | [], _, _, e, .nil => by cases e; rfl
  | d :: r, ks, _, e, .cons a ar => by
    simp only [keysOf] at e
    split at e
    · rename_i k ks' e1 e2
      cases e
      rw [keyOf_at e1 a, keysOf_at e2 ar]; rfl
    · cases e
/-- the items of a list, a tuple that is read -/
theorem AtR.lst {K : PySem.W.Frag} {h H : Hp} {ds : List D} {v : V} (sb : Sub h H) (a : AtR K h H (.lst ds) v) : ∃ p vs, v = .ref p ∧ H p = some (.lst vs) ∧ Ats K h ds vs := by
  cases a with
  | of a => cases a with | lst e r => exact ⟨_, _, rfl, sb.lst e, r⟩
  | ls e r => exact ⟨_, _, rfl, e, r⟩
theorem AtR.tup {K : PySem.W.Frag} {h H : Hp} {ds : List D} {v : V} (sb : Sub h H) (a : AtR K h H (.tup ds) v) : ∃ p vs, v = .ref p ∧ H p = some (.tup vs) ∧ Ats K h ds vs := by
  cases a with
  | of a => cases a with | tup e r => exact ⟨_, _, rfl, sb.tup e, r⟩
theorem AtR.dK {K : PySem.W.Frag} {h H : Hp} {ds : List (Key × D)} {v : V} (sb : Sub h H) (a : AtR K h H (.dK ds) v) : ∃ p vs, v = .ref p ∧ Rd H p (.dK vs) ∧ AtK K h ds vs := by
  cases a with
  | of a => cases a with | dK e r => exact ⟨_, _, rfl, sb.rd e, r⟩
  | dk e r => exact ⟨_, _, rfl, e, r⟩
theorem AtR.dT {K : PySem.W.Frag} {h H : Hp} {ds : List (List Key × D)} {v : V} (sb : Sub h H) (a : AtR K h H (.dT ds) v) : ∃ p vs, v = .ref p ∧ Rd H p (.dT vs) ∧ AtT K h ds vs := by
  cases a with
  | of a => cases a with | dT e r => exact ⟨_, _, rfl, sb.rd e, r⟩
  | dt e r => exact ⟨_, _, rfl, e, r⟩
/-- what a dict answers to a key -/
theorem dict_get {K : PySem.W.Frag} {h H : Hp} {dd dy : D} {x y : V} (sb : Sub h H) (ax : AtR K h H dd x) (ay : AtR K h H dy y) :
    (∀ l k, dd = .dK l → keyOf dy = some k → ∃ a o, x = .ref a ∧ DGet H a y o ∧ (∀ d, look l k = some d → ∃ v, o = some v ∧ At K h d v) ∧ (look l k = none → o = none)) ∧
    (∀ l ds k, dd = .dT l → dy = .tup ds → keysOf ds = some k → ∃ a o, x = .ref a ∧ DGet H a y o ∧ (∀ d, look l k = some d → ∃ v, o = some v ∧ At K h d v) ∧ (look l k = none → o = none)) := by
  refine ⟨fun l k e ek => ?_, fun l ds k e e2 ek => ?_⟩
  · subst e
    obtain ⟨p, vs, rfl, r, al⟩ := ax.dK sb
    exact ⟨p, valV vs k, rfl, .inl ⟨vs, k, r, keyOf_atR ek ay, rfl⟩, al.look.1, al.look.2⟩
  · subst e e2
    obtain ⟨p, vs, rfl, r, al⟩ := ax.dT sb
    obtain ⟨q, ws, rfl, r2, al2⟩ := ay.tup sb
    rw [keysOf_at ek al2] at r2
    exact ⟨p, valV vs k, rfl, .inr ⟨vs, k, q, r, rfl, r2, rfl⟩, al.look.1, al.look.2⟩
theorem atI_at {K : PySem.W.Frag} {h : Hp} {ds : List D} {vs : List V} {i : Int} {d : D} (a : Ats K h ds vs) (e : atI ds i = some d) : ∃ v, atI vs i = some v ∧ At K h d v := by
  unfold atI at e ⊢
  rw [a.length] at e
  cases q : ixN vs.length i with
  | none => rw [q] at e; cases e
  | some j => rw [q] at e; exact a.get e
theorem ix_ok (hu : X.A.units + 1 < cLine) : IxR X (rOf X.K ixD) := by
  have base : IxR X (fun x y H Q => rIxL X.K x y H Q ∨ rIxT X.K x y H Q ∨ ∃ a v, x = .ref a ∧ DGet H a y (some v) ∧ Q v H) := ix_list.or (ix_tup.or (ix_dict hu))
  intro value slice pins s σ H x y v u Q I rx ry ⟨h, dx, dy, R, sb, ax, ay, w, c⟩ hs
  refine base value slice pins s σ H x y v u Q I rx ry ?_ hs
  have fin : ∀ d z, At X.K h d z → R (.fz d) → Q z H := fun d z az q => c z H (.plain sb az q)
  unfold ixD at w
  split at w
  · rename_i ds i
    split at w
    · rename_i d e
      obtain ⟨p, vs, rfl, r, al⟩ := ax.lst sb
      obtain ⟨z, e2, az⟩ := atI_at al e
      exact .inl ⟨p, vs, i, z, rfl, ay.int, SqL.of r, e2, fin d z az w⟩
    · exact w.elim
  · rename_i ds i
    split at w
    · rename_i d e
      obtain ⟨p, vs, rfl, r, al⟩ := ax.tup sb
      obtain ⟨z, e2, az⟩ := atI_at al e
      exact .inr (.inl ⟨p, vs, i, z, rfl, ay.int, SqT.of r, e2, fin d z az w⟩)
    · exact w.elim
  · rename_i ns i
    split at w
    · rename_i n e
      cases ax with
      | of ax =>
        cases ax with
        | scr q =>
          refine .inl ⟨_, _, i, .int n, rfl, ay.int, sb.sql q, ?_, fin _ _ .int w⟩
          unfold atI at e ⊢
          rw [List.length_map]
          cases z : ixN ns.length i with
          | none => rw [z] at e; cases e
          | some j => rw [z] at e; show (ns.map V.int)[j]? = _; rw [List.getElem?_map, show ns[j]? = some n from e]; rfl
    · exact w.elim
  · rename_i l
    split at w
    · rename_i k ek
      split at w
      · rename_i d e
        obtain ⟨a, o, rfl, g, g1, _⟩ := (dict_get sb ax ay).1 l k rfl ek
        obtain ⟨z, rfl, az⟩ := g1 d e
        exact .inr (.inr ⟨a, z, rfl, g, fin d z az w⟩)
      · exact w.elim
    · exact w.elim
  · rename_i l ds
    split at w
    · rename_i k ek
      split at w
      · rename_i d e
        obtain ⟨a, o, rfl, g, g1, _⟩ := (dict_get sb ax ay).2 l ds k rfl rfl ek
        obtain ⟨z, rfl, az⟩ := g1 d e
        exact .inr (.inr ⟨a, z, rfl, g, fin d z az w⟩)
      · exact w.elim
    · exact w.elim
  · exact w.elim
theorem de_ix (hu : X.A.units + 1 < cLine) (ha : DE X pa a ta) (hb : DE X pb b tb) (hs : PlainIx b) : DE X (pa && pb) (.Subscript a b pos) (dBin ixD pb ta tb) :=
  pe_imp (pe_ix (ix_ok hu) ha hb hs) fun _ _ _ w => bin_imp w
end
end DL

/-! Loops, comprehensions, a def by its body. -/
namespace DL
open PySem PySem.Spec L2

/-! ### what a loop walks -/
/-- what is locked stays so -/
def Frz (H H' : Hp) : Prop := ∀ a o u, H a = some (.frz o u) → H' a = some (.frz o u)
theorem Frz.refl (H : Hp) : Frz H H := fun _ _ _ e => e
theorem OwnE.nofrz {K : PySem.W.Frag} {h H : Hp} {G : En} {σ : L2.St} {fp : List Addr} (w : OwnE K h H G σ fp) : ∀ a ∈ fp, ∀ o u, H a ≠ some (.frz o u) := fun a m o u => w.nobad a m _ rfl
theorem Ext.frz {h H h' H' : Hp} {fp fp' : List Addr} (e : Ext h H fp h' H' fp') (n : ∀ a ∈ fp, ∀ o u, H a ≠ some (.frz o u)) : Frz H H' := fun a o u q => by
  rcases e.fr a _ (fun m => n a m o u q) q with r | ⟨d, _⟩
  · exact r
  · cases d
def Gives (K : PySem.W.Frag) (J : It) (h0 H0 : Hp) (xs : List D) : Prop := ∀ h H, Same h0 h → Frz H0 H → Sub h H →
  (∀ i d, xs[i]? = some d → J.go i H ∧ ∀ x H', J.yld i H x H' → ∃ h', Same h h' ∧ Sub h' H' ∧ Same H H' ∧ (∀ a o, h' a = some o → h a = some o ∨ Frs H a) ∧ At K h' d x) ∧ J.stop xs.length H
abbrev DTI := En → (En → List D → Prop) → Prop
def IPost (K : PySem.W.Frag) (σ : L2.St) (h H : Hp) (fp : List Addr) (Q : En → List D → Prop) : It → Hp → Prop := fun J H' => ∃ h' G' fp' xs, Stt K h' H' G' σ fp' ∧ Ext h H fp h' H' fp' ∧ Gives K J h' H' xs ∧ Q G' xs
def sI (K : PySem.W.Frag) (t : DTI) : TI := fun σ H R => ∃ h G fp Q, Stt K h H G σ fp ∧ t G Q ∧ ∀ J H', IPost K σ h H fp Q J H' → R J H'
def DI (X : Cx) (tg iter : Expr) (t : DTI) : Prop := PI X tg iter (sI X.K t)
theorem pi_imp {X : Cx} {tg e : Expr} {t t' : TI} (h : PI X tg e t) (k : ∀ σ H Q, t' σ H Q → t σ H Q) : PI X tg e t' := ⟨fun pins s σ H Q I q => h.run pins s σ H Q I (k σ H Q q)⟩
/-- a list, a tuple -/
def iSeqD (te : DTE) : DTI := fun G Q => te G fun G1 v => fzW G1 v fun G2 d => match d with | .lst ds => Q G2 ds | .tup ds => Q G2 ds | .scr ns => Q G2 (ns.map .int) | _ => False
def upto (lo : Int) (n : Nat) : List D := (List.range n).map fun i => .int (lo + (i : Nat))
def uptoC (lo c : Int) (n : Nat) : List D := (List.range n).map fun i => .int (lo + (i : Nat) * c)
def iRange1 (ta : DTA) : DTI := fun G Q => ta G fun G1 as => withD as fun ds => match ds with | [.int j] => -(2 ^ 62) ≤ j ∧ j < 2 ^ 62 ∧ Q G1 (upto 0 j.toNat) | _ => False
def iRange2 (ta : DTA) : DTI := fun G Q => ta G fun G1 as => withD as fun ds => match ds with | [.int i, .int j] => (-(2 ^ 62) ≤ i ∧ i < 2 ^ 62 ∧ -(2 ^ 62) ≤ j ∧ j < 2 ^ 62) ∧ Q G1 (upto i (j - i).toNat) | _ => False
def iRange3 (ta : DTA) : DTI := fun G Q => ta G fun G1 as => withD as fun ds => match ds with | [.int i, .int j, .int c] => ∃ n, RgC i j c n ∧ Q G1 (uptoC i c n) | _ => False
def enumD : Nat → List D → List D
  | _, [] => []
  | i, d :: r => .tup [.int (i : Nat), d] :: enumD (i + 1) r
def zipD : List D → List D → List D
  | a :: r, b :: s => .tup [a, b] :: zipD r s
  | _, _ => []
def iEnumD (ta : DTA) : DTI := fun G Q => ta G fun G1 as => withD as fun ds => match ds with | [.lst xs] => Q G1 (enumD 0 xs) | _ => False
def iZipD (ta : DTA) : DTI := fun G Q => ta G fun G1 as => withD as fun ds => match ds with | [.lst xs, .lst ys] => Q G1 (zipD xs ys) | [.tup xs, .tup ys] => Q G1 (zipD xs ys) | _ => False
section
variable {K : PySem.W.Frag}
theorem ints_ats {h : Hp} : ∀ {ns : List Int}, Ats K h (ns.map .int) (ns.map V.int)
  | [] => .nil
  | n :: r => .cons .int ints_ats
theorem gives_list {h0 H0 : Hp} {a : Addr} {vs : List V} {ds : List D} (e : SqL K h0 a vs) (r : Ats K h0 ds vs) : Gives K (Itl K a) h0 H0 ds := fun h H s _ sb => by
  have e2 : SqL K H a vs := sb.sql (s.seq e)
  refine ⟨fun i d ed => ?_, vs, e2, by rw [r.length]; exact Nat.le_refl _⟩
  obtain ⟨v, ev, av⟩ := r.get ed
  refine ⟨⟨vs, v, e2, ev⟩, fun x H' ⟨eh, y⟩ => ?_⟩
  subst eh
  have := (y vs e2).symm.trans ev
  cases this
  exact ⟨h, Same.refl h, sb, Same.refl H', fun _ _ e => .inl e, av.mono s⟩
theorem gives_tup {h0 H0 : Hp} {a : Addr} {vs : List V} {ds : List D} (e : h0 a = some (.tup vs)) (r : Ats K h0 ds vs) : Gives K (Itt K a) h0 H0 ds := fun h H s _ sb => by
  have e2 : SqT K H a vs := SqT.of (sb.tup (s _ _ e))
  refine ⟨fun i d ed => ?_, vs, e2, by rw [r.length]; exact Nat.le_refl _⟩
  obtain ⟨v, ev, av⟩ := r.get ed
  refine ⟨⟨vs, v, e2, ev⟩, fun x H' ⟨eh, y⟩ => ?_⟩
  subst eh
  have := (y vs e2).symm.trans ev
  cases this
  exact ⟨h, Same.refl h, sb, Same.refl H', fun _ _ e => .inl e, av.mono s⟩
theorem gives_range {h0 H0 : Hp} {lo : Int} {n : Nat} : Gives K (Itr lo n) h0 H0 (upto lo n) := fun h H s _ sb => by
  refine ⟨fun i d ed => ?_, by simp [upto, Itr]⟩
  simp only [upto, List.getElem?_map, Option.map_eq_some_iff] at ed
  obtain ⟨j, e1, rfl⟩ := ed
  obtain ⟨hj, e2⟩ := List.getElem?_eq_some_iff.mp e1
  rw [List.getElem_range] at e2
  subst e2
  refine ⟨by simpa [Itr] using hj, fun x H' ⟨eh, y⟩ => ?_⟩
  subst eh y
  exact ⟨h, Same.refl h, sb, Same.refl H', fun _ _ e => .inl e, .int⟩
theorem gives_rangeC {h0 H0 : Hp} {lo c : Int} {n : Nat} : Gives K (Itc lo c n) h0 H0 (uptoC lo c n) := fun h H s _ sb => by
  refine ⟨fun i d ed => ?_, by simp [uptoC, Itc]⟩
  simp only [uptoC, List.getElem?_map, Option.map_eq_some_iff] at ed
  obtain ⟨j, e1, rfl⟩ := ed
  obtain ⟨hj, e2⟩ := List.getElem?_eq_some_iff.mp e1
  rw [List.getElem_range] at e2
  subst e2
  refine ⟨by simpa [Itc] using hj, fun x H' ⟨eh, y⟩ => ?_⟩
  subst eh y
  exact ⟨h, Same.refl h, sb, Same.refl H', fun _ _ e => .inl e, .int⟩
theorem enumD_get : ∀ {xs : List D} {k i : Nat} {d : D}, (enumD k xs)[i]? = some d → ∃ x, xs[i]? = some x ∧ d = .tup [.int ((k + i : Nat)), x]
  | [], _, _, _, e => by simp [enumD] at e
  | x :: r, k, 0, d, e => by simp [enumD] at e; exact ⟨x, by simp, by simpa using e.symm⟩
  | x :: r, k, i + 1, d, e => by
    obtain ⟨y, e1, e2⟩ := enumD_get (xs := r) (k := k + 1) (i := i) (by simpa [enumD] using e)
    exact ⟨y, by simpa using e1, by rw [e2]; simp; omega⟩
theorem enumD_length : ∀ (xs : List D) (k : Nat), (enumD k xs).length = xs.length
  | [], _ => rfl
  | x :: r, k => by simp [enumD, enumD_length r]
theorem zipD_get : ∀ {xs ys : List D} {i : Nat} {d : D}, (zipD xs ys)[i]? = some d → ∃ x y, xs[i]? = some x ∧ ys[i]? = some y ∧ d = .tup [x, y]
  | [], _, _, _, e => by simp [zipD] at e
  | _ :: _, [], _, _, e => by simp [zipD] at e
  | x :: r, y :: s, 0, d, e => by simp [zipD] at e; exact ⟨x, y, by simp, by simp, e.symm⟩
  | x :: r, y :: s, i + 1, d, e => by
    obtain ⟨a, b, e1, e2, e3⟩ := zipD_get (xs := r) (ys := s) (i := i) (by simpa [zipD] using e)
    exact ⟨a, b, by simpa using e1, by simpa using e2, e3⟩
theorem zipD_length : ∀ (xs ys : List D), (zipD xs ys).length = min xs.length ys.length
  | [], _ => by simp [zipD]
  | _ :: _, [] => by simp [zipD]
  | x :: r, y :: s => by simp only [zipD, List.length_cons, zipD_length r s]; omega
/-- a new pair is laid -/
theorem new_pair {h H : Hp} {p : Addr} {d1 d2 : D} {v1 v2 : V} (sb : Sub h H) (np : H p = none) (a1 : At K h d1 v1) (a2 : At K h d2 v2) :
    ∃ h', Same h h' ∧ Sub h' (upd H p (.tup [v1, v2])) ∧ Same H (upd H p (.tup [v1, v2])) ∧ (∀ a o, h' a = some o → h a = some o ∨ Frs H a) ∧ At K h' (.tup [d1, d2]) (.ref p) := by
  obtain ⟨h', t, fv, o, e⟩ := OpPost.tup (K := K) (R := fun t => t = .fz (.tup [d1, d2])) sb np (.cons a1 (.cons a2 .nil)) rfl
  subst e
  cases o.own with
  | fz a => exact ⟨h', o.gh, o.sub, o.fr, fun x w e => (o.hn x w e).imp id .inl, a⟩
end
section
variable {X : Cx} {pa pb : Bool} {m : Nat} {e tg : Expr} {es : List Expr} {te : DTE} {ta : DTA} {g : DTG} {pos p : Pos}
/-- a list or a tuple, whichever it is -/
theorem pi_any {tl : TE} {l : Expr} (hl : PE X l tl) : PI X tg l (fun σ H R => tl σ H fun x H1 => (∃ a, x = .ref a ∧ (∃ xs, SqL X.K H1 a xs) ∧ R (Itl X.K a) H1) ∨ (∃ a, x = .ref a ∧ (∃ xs, SqT X.K H1 a xs) ∧ R (Itt X.K a) H1)) :=
  ⟨fun pins s σ H R I w => thn (hl.run pins s σ H _ I w) fun v s1 got => by
    obtain ⟨x, H1, J, rel, ⟨a, ex, ⟨xs, sq⟩, r⟩ | ⟨a, ex, ⟨xs, sq⟩, r⟩⟩ := got
    · subst ex; cases rel
      obtain ⟨us, _, pl, _⟩ := J.list sq
      exact PySem.wpAny_pyIter_list pl.isList (pi_one J _ (turn_list a _) ⟨_, Heap.get?_push_size _ rfl, rfl, rfl⟩ r)
    · subst ex; cases rel
      obtain ⟨us, _, pl, _⟩ := J.tuple sq
      exact PySem.wpAny_pyIter_tuple (show s1.heap.IsTuple a us.toArray from pl) (pi_one J _ (turn_tuple a _) ⟨_, Heap.get?_push_size _ rfl, rfl, rfl⟩ r)⟩
theorem di_seq (he : DE X pa e te) : DI X tg e (iSeqD te) := pi_imp (pi_any he) fun σ H Q ⟨h, G, fp, Q', S, w, c⟩ => by
  refine ⟨h, G, fp, _, S, w, fun v H1 ⟨h1, G1, f1, va, fva, r1, w1⟩ => ?_⟩
  obtain ⟨h2, G2, f2, d, S2, a2, e2, w2⟩ := r1.fz w1
  cases d with
  | lst ds => cases a2 with | lst ea ra => exact .inl ⟨_, rfl, ⟨_, SqL.of (S2.sub.lst ea)⟩, c _ _ ⟨h2, G2, f2, ds, S2, e2, gives_list (SqL.of ea) ra, w2⟩⟩
  | scr ns => cases a2 with | scr ea => exact .inl ⟨_, rfl, ⟨_, S2.sub.sql ea⟩, c _ _ ⟨h2, G2, f2, _, S2, e2, gives_list ea ints_ats, w2⟩⟩
  | tup ds => cases a2 with | tup ea ra => exact .inr ⟨_, rfl, ⟨_, SqT.of (S2.sub.tup ea)⟩, c _ _ ⟨h2, G2, f2, ds, S2, e2, gives_tup ea ra, w2⟩⟩
  | _ => exact w2.elim
theorem at_int {K : PySem.W.Frag} {h : Hp} {i : Int} {v : V} (a : At K h (.int i) v) : v = .int i := by cases a; rfl
theorem di_range1 {a : Expr} (hg : Gl X "range") (hm : X.mg "range" = none) (ha : DA X pa [a] ta) (hs : starEach [a] X.env = [(false, eval a X.env)] := by rfl) : DI X tg (.Call (.Name "range" p) [a] [] pos) (iRange1 ta) :=
  pi_imp (pi_range1 hg hm ha hs) fun σ H Q ⟨h, G, fp, Q', S, w, c⟩ => by
    refine ⟨h, G, fp, _, S, w, fun vs H1 ⟨h1, G1, f1, as, S1, av, e1, p1, w1⟩ => ?_⟩
    obtain ⟨ds, ed, w2⟩ := withD_of w1
    have ad := avD_at av ed
    split at w2
    · rename_i j
      cases ad with | cons a r => cases r; cases a; exact ⟨j, rfl, w2.1, w2.2.1, c _ _ ⟨h1, G1, f1, _, S1, e1, gives_range, w2.2.2⟩⟩
    · exact w2.elim
theorem di_range2 {a b : Expr} (hg : Gl X "range") (hm : X.mg "range" = none) (ha : DA X pa [a, b] ta) (hs : starEach [a, b] X.env = [(false, eval a X.env), (false, eval b X.env)] := by rfl) (hs2 : starEach [b] X.env = [(false, eval b X.env)] := by rfl) : DI X tg (.Call (.Name "range" p) [a, b] [] pos) (iRange2 ta) :=
  pi_imp (pi_range2 hg hm ha hs hs2) fun σ H Q ⟨h, G, fp, Q', S, w, c⟩ => by
    refine ⟨h, G, fp, _, S, w, fun vs H1 ⟨h1, G1, f1, as, S1, av, e1, p1, w1⟩ => ?_⟩
    obtain ⟨ds, ed, w2⟩ := withD_of w1
    have ad := avD_at av ed
    split at w2
    · rename_i i j
      cases ad with | cons a r => cases r with | cons b r => cases r; cases a; cases b; exact ⟨i, j, rfl, w2.1, c _ _ ⟨h1, G1, f1, _, S1, e1, gives_range, w2.2⟩⟩
    · exact w2.elim
theorem di_range3 {a b c : Expr} (hg : Gl X "range") (hm : X.mg "range" = none) (ha : DA X pa [a, b, c] ta) (h0 : starEach [a, b, c] X.env = (false, eval a X.env) :: starEach [b, c] X.env := by rfl) (hpl : (backTo pos (starEach [b, c] X.env)).any (·.1) = false := by rfl) : DI X tg (.Call (.Name "range" p) [a, b, c] [] pos) (iRange3 ta) :=
  pi_imp (pi_range3 hg hm ha h0 hpl) fun σ H Q ⟨h, G, fp, Q', S, w, c⟩ => by
    refine ⟨h, G, fp, _, S, w, fun vs H1 ⟨h1, G1, f1, as, S1, av, e1, p1, w1⟩ => ?_⟩
    obtain ⟨ds, ed, w2⟩ := withD_of w1
    have ad := avD_at av ed
    split at w2
    · rename_i i j k
      obtain ⟨n, rg, w2⟩ := w2
      cases ad with | cons a r => cases r with | cons b r => cases r with | cons d r => cases r; cases a; cases b; cases d; exact ⟨i, j, k, n, rfl, rg, c _ _ ⟨h1, G1, f1, _, S1, e1, gives_rangeC, w2⟩⟩
    · exact w2.elim
theorem di_enum {tpos : Pos} {elts : List Expr} {kk : Nat} (hg : Gl X "enumerate") (hm : X.mg "enumerate" = none) (ha : DA X pa [e] ta) (hs : starEach [e] X.env = [(false, eval e X.env)] := by rfl) :
    DI X (.Tuple elts kk tpos) (.Call (.Name "enumerate" p) [e] [] pos) (iEnumD ta) :=
  pi_imp (pi_enum hg hm ha hs) fun σ H Q ⟨h, G, fp, Q', S, w, c⟩ => by
    refine ⟨h, G, fp, _, S, w, fun vs H1 ⟨h1, G1, f1, as, S1, av, e1, p1, w1⟩ => ?_⟩
    obtain ⟨ds, ed, w2⟩ := withD_of w1
    have ad := avD_at av ed
    split at w2
    · rename_i xs
      cases ad with
      | cons a r =>
        cases r
        cases a with
        | @lst a _ vs ea ra =>
          refine ⟨_, vs, rfl, (SqL.of (S1.sub.lst ea)), c _ _ ⟨h1, G1, f1, _, S1, e1, fun h H s _ sb => ?_, w2⟩⟩
          have e2 : SqL X.K H a vs := SqL.of (sb.lst (s _ _ ea))
          refine ⟨fun i d ed => ?_, vs, e2, by rw [enumD_length, ra.length]; exact Nat.le_refl _⟩
          obtain ⟨x, ex, rfl⟩ := enumD_get ed
          obtain ⟨v, ev, avx⟩ := ra.get ex
          refine ⟨⟨vs, v, e2, ev⟩, fun y H' hy => ?_⟩
          obtain ⟨T, z, rfl, nT, rfl, f⟩ := hy
          have := (f vs e2).symm.trans ev
          cases this
          simp only [Nat.zero_add]
          exact new_pair sb nT .int (avx.mono s)
    · exact w2.elim
theorem di_zip {e2 : Expr} {tpos : Pos} {elts : List Expr} {kk : Nat} (hg : Gl X "zip") (hm : X.mg "zip" = none) (ha : DA X pa [e, e2] ta)
    (hs : starEach [e, e2] X.env = (false, eval e X.env) :: starEach [e2] X.env := by rfl) (hpl : (backTo pos (starEach [e2] X.env)).any (·.1) = false := by rfl) :
    DI X (.Tuple elts kk tpos) (.Call (.Name "zip" p) [e, e2] [] pos) (iZipD ta) :=
  pi_imp (RZ.pi_zipA hg hm ha hs hpl) fun σ H Q ⟨h, G, fp, Q', S, w, c⟩ => by
    refine ⟨h, G, fp, _, S, w, fun vs H1 ⟨h1, G1, f1, as, S1, av, e1, p1, w1⟩ => ?_⟩
    obtain ⟨ds, ed, w2⟩ := withD_of w1
    have ad := avD_at av ed
    split at w2
    · rename_i xs ys
      cases ad with
      | cons a r =>
        cases r with
        | cons b r =>
          cases r
          cases a with
          | @lst a _ vs ea ra =>
            cases b with
            | @lst b _ us eb rb =>
              refine ⟨a, b, vs, us, rfl, .inl ⟨(SqL.of (S1.sub.lst ea)), (SqL.of (S1.sub.lst eb)), c _ _ ⟨h1, G1, f1, _, S1, e1, fun h H s _ sb => ?_, w2⟩⟩⟩
              have e2 : SqL X.K H a vs := SqL.of (sb.lst (s _ _ ea))
              have e3 : SqL X.K H b us := SqL.of (sb.lst (s _ _ eb))
              refine ⟨fun i d ed => ?_, vs, us, e2, e3, by rw [zipD_length, ← ra.length, ← rb.length]; omega⟩
              obtain ⟨x, y, ex, ey, rfl⟩ := zipD_get ed
              obtain ⟨v, ev, avx⟩ := ra.get ex
              obtain ⟨u, eu, avy⟩ := rb.get ey
              refine ⟨⟨vs, us, v, u, e2, e3, ev, eu⟩, fun y H' hy => ?_⟩
              obtain ⟨T, z1, z2, rfl, nT, rfl, g1, g2⟩ := hy
              have q1 := (g1 vs e2).symm.trans ev
              have q2 := (g2 us e3).symm.trans eu
              cases q1; cases q2
              exact new_pair sb nT (avx.mono s) (avy.mono s)
    · rename_i xs ys
      cases ad with
      | cons a r =>
        cases r with
        | cons b r =>
          cases r
          cases a with
          | @tup a _ vs ea ra =>
            cases b with
            | @tup b _ us eb rb =>
              refine ⟨a, b, vs, us, rfl, .inr ⟨SqT.of (S1.sub.tup ea), SqT.of (S1.sub.tup eb), c _ _ ⟨h1, G1, f1, _, S1, e1, fun h H s _ sb => ?_, w2⟩⟩⟩
              have e2 : SqT X.K H a vs := SqT.of (sb.tup (s _ _ ea))
              have e3 : SqT X.K H b us := SqT.of (sb.tup (s _ _ eb))
              refine ⟨fun i d ed => ?_, vs, us, e2, e3, by rw [zipD_length, ← ra.length, ← rb.length]; omega⟩
              obtain ⟨x, y, ex, ey, rfl⟩ := zipD_get ed
              obtain ⟨v, ev, avx⟩ := ra.get ex
              obtain ⟨u, eu, avy⟩ := rb.get ey
              refine ⟨⟨vs, us, v, u, e2, e3, ev, eu⟩, fun y H' hy => ?_⟩
              obtain ⟨T, z1, z2, rfl, nT, rfl, g1, g2⟩ := hy
              have q1 := (g1 vs e2).symm.trans ev
              have q2 := (g2 us e3).symm.trans eu
              cases q1; cases q2
              exact new_pair sb nT (avx.mono s) (avy.mono s)
    · exact w2.elim

/-! ### for -/
def forW (g : DTG) (tb : DTS) (Ds : DEnds) : List D → En → Prop
  | [], G => Ds.nx G
  | x :: r, G => g x G fun G2 => tb ⟨fun G3 => forW g tb Ds r G3, Ds.rt⟩ G2
def dFor (ti : DTI) (g : DTG) (tb : DTS) : DTS := fun Ds G => ti G fun G1 xs => forW g tb Ds xs G1
theorem Ext.same {h H h' H' : Hp} {fp : List Addr} (g1 : Same h h') (g2 : Same H H') (hn : ∀ a o, h' a = some o → h a = some o ∨ Frs H a) : Ext h H fp h' H' fp :=
  ⟨g1, fun a o _ e => .inl (g2 a o e), fun a m => .inl m, fun a o e => by rcases hn a o e with q | q; exact .inl q; exact .inr (.inr q)⟩
/-- new frozen things alone -/
theorem Stt.grow {K : PySem.W.Frag} {h H h' H' : Hp} {G : En} {σ : L2.St} {fp : List Addr} (S : Stt K h H G σ fp) (g1 : Same h h') (sb : Sub h' H') (g2 : Same H H') (hn : ∀ a o, h' a = some o → h a = some o ∨ Frs H a) : Stt K h' H' G σ fp := by
  have th := S.env.there
  refine ⟨sb, S.env.move g1 (fun a m => ?_) (fun a m => ?_), S.nd⟩
  · obtain ⟨_, u, e⟩ := th a m; rw [e]; exact g2 a u e
  · obtain ⟨n, u, e⟩ := th a m
    cases q : h' a with
    | none => rfl
    | some z =>
      rcases hn a z q with r | r
      · rw [n] at r; cases r
      · exact (r.no e (S.env.nobad a m)).elim
theorem drop_cons {α : Type} {l : List α} {i : Nat} {x : α} (e : l[i]? = some x) : l.drop i = x :: l.drop (i + 1) := by
  obtain ⟨hi, rfl⟩ := List.getElem?_eq_some_iff.mp e
  exact List.drop_eq_getElem_cons hi
theorem for_imp {ti : DTI} {tb : DTS} {D : Ends} {σ : L2.St} {H : Hp} (w : sS X.K m (dFor ti g tb) D σ H) : tFor (sI X.K ti) (sG X.K (List.take m) g) (sS X.K m tb) D σ H := by
  obtain ⟨h, G, fp, Ds, S, w, kn, kr⟩ := w
  refine ⟨h, G, fp, _, S, w, fun J H1 ⟨h1, G1, f1, xs, S1, e1, gv, w1⟩ => ?_⟩
  refine ⟨fun i mm σ' H' => mm = xs.length - i ∧ i ≤ xs.length ∧ ∃ h' G' f', Stt X.K h' H' G' σ' f' ∧ Ext h H fp h' H' f' ∧ (Same h1 h' ∧ Frz H1 H') ∧ σ'.take m = σ.take m ∧ forW g tb Ds (xs.drop i) G',
    ⟨xs.length, rfl, Nat.zero_le _, h1, G1, f1, S1, e1, ⟨Same.refl h1, Frz.refl H1⟩, rfl, w1⟩, ?_⟩
  rintro i mm σ' H' ⟨rfl, hi, h', G', f', S', e', ⟨s', z'⟩, t', w'⟩
  obtain ⟨go, stop⟩ := gv h' H' s' z' S'.sub
  by_cases hlt : i < xs.length
  · have ex : xs[i]? = some xs[i] := List.getElem?_eq_getElem hlt
    obtain ⟨g1, g2⟩ := go i _ ex
    rw [drop_cons ex] at w'
    refine .inr ⟨g1, fun σ2 H2 => i + 1 ≤ xs.length ∧ ∃ h2 G2 f2, Stt X.K h2 H2 G2 σ2 f2 ∧ Ext h H fp h2 H2 f2 ∧ (Same h1 h2 ∧ Frz H1 H2) ∧ σ2.take m = σ.take m ∧ forW g tb Ds (xs.drop (i + 1)) G2, fun σ2 H2 hh => ⟨xs.length - (i + 1), by omega, rfl, hh⟩, fun x H2 y => ?_⟩
    obtain ⟨h2, q1, q2, q3, q4, ax⟩ := g2 x H2 y
    have S2 := S'.grow q1 q2 q3 q4
    have e2 := e'.trans (Ext.same (fp := f') q1 q3 q4)
    refine ⟨h2, G', f', _, _, S2, ax, w', fun σ3 H3 ⟨h3, G3, f3, S3, e3, t3, w3⟩ => ?_⟩
    refine ⟨h3, G3, f3, _, S3, w3, fun σ4 H4 ⟨h4, G4, f4, S4, e4, t4, w4⟩ => ?_, fun v H4 n => kr v H4 (n.chain (e2.trans e3) (t3.trans t'))⟩
    have z2 : Frz H' H2 := fun a o u q => q3 a _ q
    have z3 : Frz H2 H3 := e3.frz S2.env.nofrz
    have z4 : Frz H3 H4 := e4.frz S3.env.nofrz
    exact ⟨hlt, h4, G4, f4, S4, (e2.trans e3).trans e4, ⟨((s'.trans q1).trans e3.gh).trans e4.gh, fun a o u q => z4 a o u (z3 a o u (z2 a o u (z' a o u q)))⟩, (t4.trans t3).trans t', w4⟩
  · have e : i = xs.length := by omega
    subst e
    rw [List.drop_length] at w'
    exact .inl ⟨stop, kn σ' H' ⟨h', G', f', S', e', t', w'⟩⟩
theorem ds_for {ti : DTI} {tb : DTS} {body : List Stmt} {iter : Expr} (hp : PassesOwn (model X.prog X.w) X.A X.env X.xe) (hc : X.calm = true) (hi : DI X tg iter ti) (hg : DG X (List.take m) tg g) (hb : DSs X m body tb) (hs : ∀ x, foldedSetIterable iter X.env x = pure x := by intro _; rfl) : DS X m (.For tg iter body [] pos) (dFor ti g tb) :=
  ps_imp (ps_for hp hc hi hg hb hs) fun _ _ _ w => for_imp w

/-! ### while -/
def dWhile (c : DTT) (tb : DTS) : DTS := fun Ds G => ∃ W : Nat → En → Prop, (∃ n, W n G) ∧ ∀ n G, W n G → c G fun G1 b => if b = true then tb ⟨fun G2 => ∃ n', n' < n ∧ W n' G2, Ds.rt⟩ G1 else Ds.nx G1
theorem ds_while {c : Expr} {tc : DTT} {tb : DTS} {body : List Stmt} (hp : PassesOwn (model X.prog X.w) X.A X.env X.xe) (hc : DT X pa c tc) (hb : DSs X m body tb) : DS X m (.While c body [] pos) (dWhile tc tb) := by
  refine ps_imp (ps_while hp hc hb) fun D σ H ⟨h, G, fp, Ds, S, ⟨W, ⟨n0, w0⟩, turn⟩, kn, kr⟩ => ?_
  refine ⟨fun n σ' H' => ∃ h' G' f', Stt X.K h' H' G' σ' f' ∧ Ext h H fp h' H' f' ∧ σ'.take m = σ.take m ∧ W n G', ⟨n0, h, G, fp, S, Ext.refl h H fp, rfl, w0⟩, ?_⟩
  rintro n σ' H' ⟨h', G', f', S', e', t', w'⟩
  refine ⟨h', G', f', _, S', turn n G' w', fun b H1 ⟨h1, G1, f1, S1, e1, p1, w1⟩ => ?_⟩
  cases b with
  | true =>
    rw [if_pos rfl] at w1 ⊢
    refine ⟨fun σ2 H2 => ∃ n', n' < n ∧ ∃ h2 G2 f2, Stt X.K h2 H2 G2 σ2 f2 ∧ Ext h H fp h2 H2 f2 ∧ σ2.take m = σ.take m ∧ W n' G2, fun σ2 H2 hh => hh, h1, G1, f1, _, S1, w1, fun σ2 H2 ⟨h2, G2, f2, S2, e2, t2, n', hn, w2⟩ => ?_, fun v H2 q => kr v H2 (q.chain (e'.trans e1) t')⟩
    exact ⟨n', hn, h2, G2, f2, S2, (e'.trans e1).trans e2, t2.trans t', w2⟩
  | false =>
    rw [if_neg Bool.false_ne_true] at w1 ⊢
    exact kn σ' H1 ⟨h1, G1, f1, S1, e'.trans e1, t', w1⟩

/-! ### comprehensions -/
def wipeE (G : En) : List Nat → En
  | [] => G
  | v :: vs => (wipeE G vs).set v none
/-- behind a comprehension: the names of the block hold what they held, where that is frozen -/
def unwipe (G0 G : En) : List Nat → En
  | [] => G
  | v :: vs => (match G0[v]? with | some (some (.fz d)) => (unwipe G0 G vs).set v (some (.fz d)) | _ => unwipe G0 G vs)
def compW (g : DTG) (tt : DTT) (te : DTE) (vs : List Nat) (Q : En → List D → Prop) : List D → List D → En → Prop
  | [], acc, G => Q G acc
  | x :: r, acc, G => acc.length < 10000000 ∧ g x (wipeE G vs) fun G1 => tt G1 fun G2 b =>
      if b = true then te G2 fun G3 v => fzW G3 v fun G4 d => compW g tt te vs Q r (acc ++ [d]) G4 else compW g tt te vs Q r acc G2
def dLc (ti : DTI) (g : DTG) (tt : DTT) (te : DTE) (vs : List Nat) : DTE := fun G Q => ti G fun G1 xs => compW g tt te vs (fun G2 ds => Q (unwipe G1 (wipeE G2 vs) vs) (.t (.ls ds))) xs [] G1
theorem wipe_get : ∀ (σ : L2.St) (vs : List Nat) (j : Nat), (wipe σ vs)[j]? = if j ∈ vs then σ[j]?.map (fun _ => none) else σ[j]?
  | σ, [], j => by simp [wipe]
  | σ, v :: vs, j => by
    have ih := wipe_get σ vs j
    simp only [wipe]
    by_cases e : v = j
    · subst e
      rw [if_pos (by simp)]
      by_cases hl : v < σ.length
      · rw [List.getElem?_set_self (by rw [wipe_length]; exact hl), List.getElem?_eq_getElem hl]; rfl
      · rw [List.getElem?_eq_none (by simp [wipe_length]; omega), List.getElem?_eq_none (by omega)]; rfl
    · rw [List.getElem?_set_ne e, ih]
      simp [Ne.symm e]
theorem wipe_set {σ : L2.St} {vs : List Nat} {i : Nat} (x : Option V) (hi : i ∈ vs) : wipe (σ.set i x) vs = wipe σ vs := by
  apply List.ext_getElem?
  intro j
  rw [wipe_get, wipe_get]
  by_cases hj : j ∈ vs
  · rw [if_pos hj, if_pos hj]
    by_cases e : i = j
    · subst e
      by_cases hl : i < σ.length
      · rw [List.getElem?_set_self hl, List.getElem?_eq_getElem hl]; rfl
      · rw [List.getElem?_eq_none (by simpa using hl), List.getElem?_eq_none (by omega)]
    · rw [List.getElem?_set_ne e]
  · rw [if_neg hj, if_neg hj, List.getElem?_set_ne (fun e => hj (by rw [← e]; exact hi))]
theorem wipe_wipe (σ : L2.St) (vs : List Nat) : wipe (wipe σ vs) vs = wipe σ vs := by
  apply List.ext_getElem?
  intro j
  rw [wipe_get, wipe_get]
  by_cases hj : j ∈ vs
  · rw [if_pos hj, if_pos hj]; cases σ[j]? <;> rfl
  · rw [if_neg hj, if_neg hj]
theorem OwnE.wipe {K : PySem.W.Frag} {h H : Hp} {G : En} {σ : L2.St} {fp : List Addr} (o : OwnE K h H G σ fp) : ∀ vs : List Nat, ∃ fp', OwnE K h H (wipeE G vs) (L2.wipe σ vs) fp' ∧ fp'.Sublist fp
  | [] => ⟨fp, o, .refl _⟩
  | v :: vs => by
    obtain ⟨f1, o1, s1⟩ := o.wipe vs
    obtain ⟨f2, o2, s2⟩ := OwnE.cut v none o1
    exact ⟨f2, o2, s2.trans s1⟩
theorem Stt.wipe {K : PySem.W.Frag} {h H : Hp} {G : En} {σ : L2.St} {fp : List Addr} (S : Stt K h H G σ fp) (vs : List Nat) : ∃ fp', Stt K h H (wipeE G vs) (L2.wipe σ vs) fp' ∧ ∀ a ∈ fp', a ∈ fp := by
  obtain ⟨f, o, s⟩ := S.env.wipe vs
  exact ⟨f, ⟨S.sub, o, s.nodup S.nd⟩, fun a m => s.subset m⟩
theorem wipeE_none : ∀ (G : En) (vs : List Nat) (v : Nat), v ∈ vs → v < G.length → (wipeE G vs)[v]? = some none
  | G, w :: vs, v, m, hl => by
    have len : ∀ us : List Nat, (wipeE G us).length = G.length := fun us => by
      induction us with
      | nil => rfl
      | cons u us ih => simp only [wipeE, List.length_set, ih]
    simp only [wipeE]
    by_cases e : w = v
    · subst e; rw [List.getElem?_set_self (by rw [len]; exact hl)]
    · rw [List.getElem?_set_ne e]
      exact wipeE_none G vs v (by simpa [Ne.symm e] using m) hl
theorem OwnE.other {K : PySem.W.Frag} {h H : Hp} : ∀ {G : En} {σ σ' : L2.St} {fp : List Addr}, OwnE K h H G σ fp → σ'.length = σ.length → (∀ i : Nat, σ'[i]? ≠ σ[i]? → G[i]? = some none) → OwnE K h H G σ' fp
  | _, _, σ', _, .nil, hl, _ => by
    have : σ' = [] := List.eq_nil_of_length_eq_zero (by simpa using hl)
    subst this; exact .nil
  | _, _, [], _, .no r, hl, _ => by simp at hl
  | _, _, o :: σ', _, .no r, hl, hn => .no (r.other (by simpa using hl) fun i ne => by simpa using hn (i + 1) (by simpa using ne))
  | _, _, [], _, .so a r, hl, _ => by simp at hl
  | _, _, o :: σ', _, .so (v := v) a r, hl, hn => by
    have e : o = some v := by
      refine Classical.byContradiction fun ne => ?_
      have := hn 0 (by simpa using ne)
      simp at this
    subst e
    exact .so a (r.other (by simpa using hl) fun i ne => by simpa using hn (i + 1) (by simpa using ne))
theorem unwipe_ok {K : PySem.W.Frag} {h0 H0 h H : Hp} {G0 G : En} {σ : L2.St} {f0 fp : List Addr} (S0 : Stt K h0 H0 G0 σ f0) (s : Same h0 h) (sb : Sub h H) : ∀ (vs : List Nat), OwnE K h H G σ fp → fp.Nodup → ∃ fp', OwnE K h H (unwipe G0 G vs) σ fp' ∧ fp'.Nodup ∧ ∀ a ∈ fp', a ∈ fp
  | [], o, n => ⟨fp, o, n, fun _ m => m⟩
  | v :: vs, o, n => by
    obtain ⟨f1, o1, n1, s1⟩ := unwipe_ok S0 s sb vs o n
    unfold unwipe
    split
    · rename_i d eg
      obtain ⟨u, ev⟩ := S0.env.has eg
      obtain ⟨g1, gc, g2, _, oc, _⟩ := S0.env.slot eg ev
      cases oc with
      | fz a =>
        obtain ⟨f2, o2, n2, s2⟩ := o1.store (i := v) (by rw [o1.length]; exact (List.getElem?_eq_some_iff.mp ev).1) (.fz (a.mono s)) (by simpa using n1)
        rw [set_same ev] at o2
        exact ⟨f2, o2, n2, fun a m => s1 a (by simpa using s2 a m)⟩
    · exact ⟨f1, o1, n1, s1⟩
theorem Ats.append {K : PySem.W.Frag} {h : Hp} : ∀ {l m : List D} {l' m' : List V}, Ats K h l l' → Ats K h m m' → Ats K h (l ++ m) (l' ++ m')
  | _, _, _, _, .nil, b => b
  | _, _, _, _, .cons a r, b => .cons a (Ats.append r b)
theorem lc_imp {pt pc : Bool} {ti : DTI} {tt : DTT} {vs : List Nat} {σ : L2.St} {H : Hp} {Q : VK} (hob : ∀ σ : L2.St, L2.wipe (L2.wipe σ vs) vs = L2.wipe σ vs) (w : sE X.K pb (dLc ti g tt te vs) σ H Q) (hpb : pb = false) :
    tLc (sI X.K ti) (sG X.K (fun σ => L2.wipe σ vs) g) (sT X.K pt tt) (sE X.K pc te) vs σ H Q := by
  subst hpb
  obtain ⟨h, G, fp, Q', S, w, c⟩ := w
  refine ⟨h, G, fp, _, S, w, fun J H1 ⟨h1, G1, f1, xs, S1, e1, gv, w1⟩ => ?_⟩
  intro D nD
  have hD1 : h1 D = none := by
    cases q : h1 D with
    | none => rfl
    | some o => obtain ⟨u, e⟩ := S1.sub.there q; rw [nD] at e; cases e
  refine ⟨fun i mm H' => mm = xs.length - i ∧ i ≤ xs.length ∧ ∃ h' G' f' acc va, H' D = some (.lst va) ∧ Ats X.K h' acc va ∧ h' D = none ∧ D ∉ f' ∧ Stt X.K h' H' (wipeE G' vs) (L2.wipe σ vs) f' ∧ Ext h1 (upd H1 D (.lst [])) f1 h' (upd H' D (.lst [])) f' ∧ Same h1 h' ∧
      compW g tt te vs (fun G2 ds => Q' (unwipe G1 (wipeE G2 vs) vs) (.t (.ls ds))) (xs.drop i) acc G', ⟨xs.length, rfl, Nat.zero_le _, ?_⟩, ?_⟩
  · have Sn : Stt X.K h1 (upd H1 D (.lst [])) G1 σ f1 := S1.grow (Same.refl h1) (fun a o e => by
      rw [upd_ne (fun z => by subst z; rw [hD1] at e; cases e)]; exact S1.sub a o e) (fun a o e => by rw [upd_ne (ne_of_none e nD)]; exact e) fun _ _ e => .inl e
    obtain ⟨f2, S2, s2⟩ := Sn.wipe vs
    refine ⟨h1, G1, f2, [], [], upd_same, .nil, hD1, fun m => ?_, S2, ?_, Same.refl h1, w1⟩
    · obtain ⟨_, u, e⟩ := S1.env.there D (s2 D m); rw [nD] at e; cases e
    · rw [upd_upd]
      exact (Ext.refl h1 _ f1).weak s2
  · rintro i mm H' ⟨rfl, hi, h', G', f', acc, va, eD, ac, nh, nf, S', e', s', w'⟩
    have z' : Frz H1 H' := fun a o u q => by
      have nD' : a ≠ D := fun z => by subst z; rw [nD] at q; cases q
      have na : a ∉ f1 := fun m => S1.env.nofrz a m o u q
      rcases e'.fr a _ na (by rw [upd_ne nD']; exact q) with r | ⟨d, _⟩
      · rw [upd_ne nD'] at r; exact r
      · cases d
    obtain ⟨go, stop⟩ := gv h' H' s' z' S'.sub
    by_cases hlt : i < xs.length
    · have ex : xs[i]? = some xs[i] := List.getElem?_eq_getElem hlt
      obtain ⟨g1, g2⟩ := go i _ ex
      rw [drop_cons ex] at w'
      obtain ⟨hlen, w'⟩ := w'
      refine .inr ⟨g1, fun H2 => i + 1 ≤ xs.length ∧ ∃ h2 G2 f2 acc va, H2 D = some (.lst va) ∧ Ats X.K h2 acc va ∧ h2 D = none ∧ D ∉ f2 ∧ Stt X.K h2 H2 (wipeE G2 vs) (L2.wipe σ vs) f2 ∧ Ext h1 (upd H1 D (.lst [])) f1 h2 (upd H2 D (.lst [])) f2 ∧ Same h1 h2 ∧
          compW g tt te vs (fun G2 ds => Q' (unwipe G1 (wipeE G2 vs) vs) (.t (.ls ds))) (xs.drop (i + 1)) acc G2, fun H2 hh => ⟨xs.length - (i + 1), by omega, rfl, hh⟩, fun x H2 y => ?_⟩
      obtain ⟨h2, q1, q2, q3, q4, ax⟩ := g2 x H2 y
      have S2 := S'.grow q1 q2 q3 q4
      have x2 : Ext h' H' f' h2 H2 f' := Ext.same q1 q3 q4
      -- what every step keeps of D
      have keepD : ∀ {h3 H3 f3}, Ext h' H' f' h3 H3 f3 → H3 D = some (.lst va) ∧ h3 D = none ∧ D ∉ f3 := fun {h3 H3 f3} x => by
        refine ⟨(x.fr D _ nf eD).elim id (fun ⟨d, _⟩ => by cases d), ?_, fun m => ?_⟩
        · cases q : h3 D with
          | none => rfl
          | some o =>
            rcases x.hn D o q with r | r | r
            · rw [nh] at r; cases r
            · exact (nf r).elim
            · rcases r with r | ⟨_, r⟩ <;> (rw [eD] at r; cases r)
        · rcases x.nw D m with r | r
          · exact nf r
          · rw [eD] at r; cases r
      have lift : ∀ {h3 H3 f3}, Ext h' H' f' h3 H3 f3 → ∀ z, Ext h1 (upd H1 D (.lst [])) f1 h3 (upd (upd H3 D z) D (.lst [])) f3 := fun {h3 H3 f3} x z => by
        rw [upd_upd]
        refine e'.trans ⟨x.gh, fun a o m e => ?_, fun a m => ?_, fun a o e => ?_⟩
        · by_cases d : a = D
          · subst d; rw [upd_same] at e ⊢; exact .inl e
          · rw [upd_ne d] at e ⊢; exact x.fr a o m e
        · rcases x.nw a m with r | r
          · exact .inl r
          · right; rw [upd_ne (fun d => by subst d; rw [eD] at r; cases r)]; exact r
        · rcases x.hn a o e with r | r | r
          · exact .inl r
          · exact .inr (.inl r)
          · have d : a ≠ D := fun d => by subst d; rcases r with r | ⟨_, r⟩ <;> (rw [eD] at r; cases r)
            right; right; exact r.imp (fun r => by rw [upd_ne d]; exact r) fun ⟨vs, r⟩ => ⟨vs, by rw [upd_ne d]; exact r⟩
      refine ⟨h2, wipeE G' vs, f', _, _, S2, ax, w', fun σ3 H3 ⟨h3, G3, f3, S3, x3, t3, w3⟩ => ?_⟩
      refine ⟨t3.trans (wipe_wipe σ vs), h3, G3, f3, _, S3, w3, fun b H4 ⟨h4, G4, f4, S4, x4, p4, w4⟩ => ?_⟩
      have x24 := (x2.trans x3).trans x4
      cases b with
      | true =>
        dsimp only
        rw [if_pos rfl] at w4 ⊢
        refine ⟨h4, G4, f4, _, S4, w4, fun v H5 ⟨h5, G5, f5, vl, fv, r5, w5⟩ => ?_⟩
        obtain ⟨h6, G6, f6, d, S6, a6, x6, w6⟩ := r5.fz w5
        have x26 := x24.trans x6
        obtain ⟨k1, k2, k3⟩ := keepD x26
        refine ⟨va, k1, ?_, hlt, ?_⟩
        · rw [← ac.length]; exact Nat.lt_of_lt_of_le hlen (by decide)
        · obtain ⟨f7, S7, s7⟩ := S6.wipe vs
          have ht : L2.wipe σ3 vs = L2.wipe σ vs := t3.trans (wipe_wipe σ vs)
          rw [ht] at S7
          have nf7 : D ∉ f7 := fun m => k3 (s7 D m)
          refine ⟨h6, G6, f7, acc ++ [d], va ++ [v], upd_same, ?_, k2, nf7, ⟨fun a o e => ?_, ?_, S7.nd⟩, (lift x26 _).weak s7, s'.trans x26.gh, w6⟩
          · exact Ats.append (ac.mono x26.gh) (.cons a6 .nil)
          · rw [upd_ne (fun z => by subst z; rw [k2] at e; cases e)]; exact S7.sub a o e
          · exact S7.env.move (Same.refl h6) (fun a m => upd_ne fun z => nf7 (z ▸ m)) fun a m => (S7.env.there a m).1
      | false =>
        dsimp only
        rw [if_neg Bool.false_ne_true] at w4 ⊢
        obtain ⟨k1, k2, k3⟩ := keepD x24
        obtain ⟨f7, S7, s7⟩ := S4.wipe vs
        have ht : L2.wipe σ3 vs = L2.wipe σ vs := t3.trans (wipe_wipe σ vs)
        rw [ht] at S7
        have l2 := lift x24 (.lst [])
        rw [upd_upd] at l2
        exact ⟨hlt, h4, G4, f7, acc, va, k1, ac.mono x24.gh, k2, fun m => k3 (s7 D m), S7, l2.weak s7, s'.trans x24.gh, w4⟩
    · have e : i = xs.length := by omega
      subst e
      rw [List.drop_length] at w'
      refine .inl ⟨stop, c _ _ ?_⟩
      -- the block is left
      have ln : (L2.wipe σ vs).length = σ.length := wipe_length σ vs
      have o1 : OwnE X.K h' H' (wipeE G' vs) σ f' := S'.env.other ln.symm fun j ne => by
        rw [wipe_get] at ne
        have hj : j ∈ vs := Classical.byContradiction fun z => ne (by rw [if_neg z])
        have hl : j < σ.length := Classical.byContradiction fun z => ne (by rw [if_pos hj, List.getElem?_eq_none (by omega)]; rfl)
        have lg : (wipeE G' vs).length = σ.length := S'.env.length.trans ln
        have len : ∀ us : List Nat, (wipeE G' us).length = G'.length := fun us => by
          induction us with
          | nil => rfl
          | cons u us ih => simp only [wipeE, List.length_set, ih]
        exact wipeE_none G' vs j hj (by rw [← len vs, lg]; exact hl)
      obtain ⟨f8, o8, n8, s8⟩ := unwipe_ok S1 s' S'.sub vs o1 S'.nd
      refine ⟨h', _, f8, .t (.ls acc), [D], ⟨⟨S'.sub, o8, n8⟩, .t (.ls nh eD ac), ?_, ?_, fun z => by cases z⟩, w'⟩
      · exact List.nodup_append.mpr ⟨n8, by simp, fun x hx y hy e => by simp at hy; subst hy; subst e; exact nf (s8 _ hx)⟩
      · refine e1.trans ⟨s', fun a o m e => ?_, fun a m => ?_, fun a o e => ?_⟩
        · have nd : a ≠ D := fun z => by subst z; rw [nD] at e; cases e
          have := e'.fr a o m (by rw [upd_ne nd]; exact e)
          rw [upd_ne nd] at this; exact this
        · rcases List.mem_append.mp m with m | m
          · rcases e'.nw a (s8 a m) with r | r
            · exact .inl r
            · have nd : a ≠ D := fun z => nf (by rw [← z]; exact s8 a m)
              rw [upd_ne nd] at r; exact .inr r
          · simp at m; subst m; exact .inr nD
        · rcases e'.hn a o e with r | r | r
          · exact .inl r
          · exact .inr (.inl r)
          · have nd : a ≠ D := fun z => by subst z; rw [nh] at e; cases e
            exact .inr (.inr (r.imp (fun r => by rw [upd_ne nd] at r; exact r) fun ⟨vs, r⟩ => ⟨vs, by rw [upd_ne nd] at r; exact r⟩))
end
end DL

/-! List comprehensions as expressions; a def by its body; methods, instances. -/
namespace DL
open PySem PySem.Spec L2

section
variable {X : Cx} {pa pt pc : Bool} {m : Nat} {tg iter elt : Expr} {ifs : List Expr} {ti : DTI} {g : DTG} {tt : DTT} {te : DTE} {pos : Pos}
def dYes : DTT := fun G Q => Q G true
def DTs (X : Cx) (pu : Bool) (es : List Expr) (t : DTT) : Prop := PTs X es (sT X.K pu t)
theorem dts_nil : DTs X true [] dYes := ⟨fun pins s σ H Q I ⟨h, G, fp, Q', S, w, c⟩ => (pts_nil (X := X)).run pins s σ H Q I (c true H ⟨h, G, fp, S, Ext.refl h H fp, fun _ => ⟨rfl, rfl, fun _ _ => rfl⟩, w⟩)⟩
theorem dts_one {c : Expr} {t : DTT} (h : DT X pa c t) : DTs X pa [c] t := pts_one h
theorem de_lc {scope : Scope} {own : List (Str × Nat)} (hc : X.calm = true) (hN : X.N.Nodup) (hi : DI X tg iter ti) (ok : BlkOk X.N X.env.scope scope own)
    (hg : ∀ (s : Shared) (H : Hp) (C : Addr) (cl : List (Str × Addr)) (fp : List Addr), DG (X.blk s H scope (compEnvC scope cl C X.env) fp) (fun σ => wipe σ (own.map (·.2))) tg g)
    (ht : ∀ (s : Shared) (H : Hp) (C : Addr) (cl : List (Str × Addr)) (fp : List Addr), DTs (X.blk s H scope (compEnvC scope cl C X.env) fp) pt ifs tt)
    (he : ∀ (s : Shared) (H : Hp) (C : Addr) (cl : List (Str × Addr)) (fp : List Addr), DE (X.blk s H scope (compEnvC scope cl C X.env) fp) pc elt te) (hs : ∀ x, foldedSetIterable iter X.env x = pure x := by intro _; rfl) :
    DE X false (.ListComp elt [⟨tg, iter, ifs, 0⟩] scope pos) (dLc ti g tt te (own.map (·.2))) :=
  pe_imp (pe_lc (g := sG X.K (fun σ => wipe σ (own.map fun x : Str × Nat => x.2)) g) (tt := sT X.K pt tt) (te := sE X.K pc te) hc hN hi ok hg ht he hs) fun _ _ _ w => lc_imp (fun _ => wipe_wipe _ _) w rfl
theorem ds_setLc {i : Nat} {y : Str} {py spos : Pos} {scope : Scope} {own : List (Str × Nat)} (hc : X.calm = true) (hN : X.N.Nodup) (hy : X.N[i]? = some y) (hyl : X.env.scope.names.lookup y = some .local)
    (hsw : swapsWith (.ListComp elt [⟨tg, iter, ifs, 0⟩] scope pos) (some (.Name y py)) spos.line X.env = pure true) (hm : m ≤ i) (hi : DI X tg iter ti) (ok : BlkOk X.N X.env.scope scope own)
    (hg : ∀ (s : Shared) (H : Hp) (C : Addr) (cl : List (Str × Addr)) (fp : List Addr), DG (X.blk s H scope (compEnvC scope cl C X.env) fp) (fun σ => wipe σ (own.map (·.2))) tg g)
    (ht : ∀ (s : Shared) (H : Hp) (C : Addr) (cl : List (Str × Addr)) (fp : List Addr), DTs (X.blk s H scope (compEnvC scope cl C X.env) fp) pt ifs tt)
    (he : ∀ (s : Shared) (H : Hp) (C : Addr) (cl : List (Str × Addr)) (fp : List Addr), DE (X.blk s H scope (compEnvC scope cl C X.env) fp) pc elt te) (hs : ∀ x, foldedSetIterable iter X.env x = pure x := by intro _; rfl) :
    DS X m (.Assign [.Name y py] (.ListComp elt [⟨tg, iter, ifs, 0⟩] scope pos) spos) (dSet i (dLc ti g tt te (own.map (·.2)))) :=
  ps_imp (ps_setLc (g := sG X.K (fun σ => wipe σ (own.map fun x : Str × Nat => x.2)) g) (tt := sT X.K pt tt) (te := sE X.K pc te) hc hN hy hyl hsw hi ok hg ht he hs) fun D σ H w => by
    have q := set_imp (pa := false) hm w
    have q2 : sE X.K false (dLc ti g tt te (own.map (·.2))) σ H (fun x H1 => gName i x σ H1 D.nx) := q
    exact lc_imp (fun _ => wipe_wipe _ _) q2 rfl
end

/-! ### a def by its body -/
def retW (m : Nat) (R : En → T → Prop) (G : En) (vl : Vl) : Prop := match vl with
  | .t t => R (G.take m) t
  | .pk i none => m ≤ i ∧ ((match G[i]? with | some (some t) => R (G.take m) t | _ => False) ∨ fzW G (.pk i none) fun G' d => R (G'.take m) (.fz d))
  | .pk i (some s) => fzW G (.pk i (some s)) fun G' d => R (G'.take m) (.fz d)
section
variable {K : PySem.W.Frag} {h H : Hp}
theorem OwnE.parts : ∀ {G : En} {σ : L2.St} {fp : List Addr} (m : Nat), OwnE K h H G σ fp → ∃ f1 f2, fp = f1 ++ f2 ∧ OwnE K h H (G.take m) (σ.take m) f1 ∧ OwnE K h H (G.drop m) (σ.drop m) f2
  | G, σ, fp, 0, o => ⟨[], fp, rfl, .nil, o⟩
  | _, _, _, m + 1, .nil => ⟨[], [], rfl, .nil, .nil⟩
  | _, _, _, m + 1, .no r => by
    obtain ⟨f1, f2, e, a, b⟩ := r.parts m
    exact ⟨f1, f2, e, .no a, b⟩
  | _, _, _, m + 1, .so (f1 := g) a r => by
    obtain ⟨f1, f2, e, c, b⟩ := r.parts m
    exact ⟨g ++ f1, f2, by rw [e, List.append_assoc], .so a c, b⟩
theorem OwnE.blank : ∀ n : Nat, OwnE K h H (List.replicate n none) (List.replicate n none) []
  | 0 => .nil
  | n + 1 => by rw [List.replicate_succ, List.replicate_succ]; exact .no (OwnE.blank n)
theorem Owns.env {k : Nat} : ∀ {ts : List T} {vs : List V} {fp : List Addr}, Owns K h H ts vs fp → OwnE K h H (ts.map some ++ List.replicate k none) (vs.map some ++ List.replicate k none) fp
  | _, _, _, .nil => OwnE.blank k
  | _, _, _, .cons a r => .so a r.env
theorem Owns.length : ∀ {ts : List T} {vs : List V} {fp : List Addr}, Owns K h H ts vs fp → ts.length = vs.length
  | _, _, _, .nil => rfl
  | _, _, _, .cons _ r => by simp [r.length]
/-- the end of a def: what the caller asked holds -/
theorem ret_ok {m : Nat} {σ : L2.St} {vs : List V} {fp : List Addr} {R : En → T → Prop} {Q : VK} {v : V} {H' : Hp} (hσ : σ.take m = (vs.take m).map some)
    (cont : ∀ v H' h' outs t fo fv, Sub h' H' → OwnE K h' H' outs ((vs.take m).map some) fo → Own K h' H' t v fv → (fo ++ fv).Nodup → Ext h H fp h' H' (fo ++ fv) → R outs t → Q v H')
    (r : RPost K (List.take m) σ h H fp (retW m R) v H') : Q v H' := by
  obtain ⟨h', G', fp', σ', vl, fv, S, ov, nd, ex, tk, w⟩ := r
  have tk2 : σ'.take m = (vs.take m).map some := tk.trans hσ
  obtain ⟨f1, f2, ef, o1, o2⟩ := S.env.parts m
  rw [tk2] at o1
  cases ov with
  | t o =>
    subst ef
    rw [List.append_assoc] at nd ex
    have sl : (f1 ++ fv).Sublist (f1 ++ (f2 ++ fv)) := (List.Sublist.refl f1).append (List.sublist_append_right f2 fv)
    exact cont v H' h' _ _ f1 fv S.sub o1 o (sl.nodup nd) (ex.weak fun a m => sl.subset m) w
  | @pk i p v t l e =>
    cases p with
    | none =>
      obtain ⟨hi, w⟩ := w
      rcases w with w | w
      case inr =>
        have r : Res K false σ' h H G' fp h' H' G' fp' (.pk i none) v [] := ⟨S, .pk l e, nd, ex, fun z => by cases z⟩
        obtain ⟨h2, G2, f2', d, S2, a2, e2, w2⟩ := r.fz w
        obtain ⟨g1, g2, eg, q1, q2⟩ := S2.env.parts m
        rw [tk2] at q1
        subst eg
        exact cont v H' h2 _ _ g1 [] S2.sub q1 (.fz a2) (by simpa using (List.nodup_append.mp S2.nd).1) (e2.weak fun a m => by simp at m ⊢; simp [m]) w2
      obtain ⟨v0, ev, rfl⟩ := l
      split at w
      · rename_i t' eg
        have eg2 : (G'.drop m)[i - m]? = some (some t') := by rw [List.getElem?_drop, show m + (i - m) = i by omega]; exact eg
        have ev2 : (σ'.drop m)[i - m]? = some (some v) := by rw [List.getElem?_drop, show m + (i - m) = i by omega]; exact ev
        obtain ⟨g1, gc, g2, eq, oc, _⟩ := o2.slot eg2 ev2
        subst eq
        subst ef
        have sl : (f1 ++ gc).Sublist (f1 ++ (g1 ++ gc ++ g2)) := (List.Sublist.refl f1).append ((List.sublist_append_right g1 gc).trans (List.sublist_append_left _ g2))
        exact cont v H' h' _ _ f1 gc S.sub o1 oc (sl.nodup S.nd) (ex.weak fun a m => by simpa using sl.subset m) w
      · exact w.elim
    | some s =>
      have r : Res K false σ' h H G' fp h' H' G' fp' (.pk i (some s)) v [] := ⟨S, .pk l e, nd, ex, fun z => by cases z⟩
      have w : fzW G' (.pk i (some s)) (fun G' d => R (G'.take m) (.fz d)) := w
      obtain ⟨h2, G2, f2', d, S2, a2, e2, w2⟩ := r.fz w
      obtain ⟨g1, g2, eg, q1, q2⟩ := S2.env.parts m
      rw [tk2] at q1
      subst eg
      exact cont v H' h2 _ _ g1 [] S2.sub q1 (.fz a2) (by simpa using (List.nodup_append.mp S2.nd).1) (e2.weak fun a m => by simp at m ⊢; simp [m]) w2
theorem body_ok {X : Cx} {n m : Nat} {F : FS} {st : List Stmt} {body : DTS} {vs : List V} {H : Hp} {Q : VK} {E : XK} {N : List Str} (hX : X.K = K) (hm : m ≤ n) (d : DSs X m st body)
    (law : ∀ ts R, ts.length = n → F ts R → body ⟨fun G => R (G.take m) (.fz .non), retW m R⟩ (ts.map some ++ List.replicate (N.length - n) none)) (sp : spOf K n m F vs H Q E) :
    ∃ t, PSs X st t ∧ t { nx := fun _ H' => Q .non H', rt := Q } (L2.start N vs) H := by
  subst hX
  obtain ⟨hl, h, ts, fp, R, sb, ow, nd, w, cont⟩ := sp
  have hlt : ts.length = n := ow.length.trans hl
  have hσ : (L2.start N vs).take m = (vs.take m).map some := by
    unfold L2.start
    rw [List.take_append_of_le_length (by simp; omega), List.map_take]
  refine ⟨_, d, h, _, fp, _, ⟨sb, ?_, nd⟩, law ts R hlt w, fun σ' H' ⟨h', G', fp', S, ex, tk, q⟩ => ?_, fun v H' r => ret_ok hσ cont r⟩
  · unfold L2.start; rw [hl]; exact ow.env
  · obtain ⟨f1, f2, ef, o1, o2⟩ := S.env.parts m
    rw [show List.take m σ' = (vs.take m).map some from tk.trans hσ] at o1
    subst ef
    exact cont .non H' h' _ _ f1 [] S.sub o1 (.fz .non) (by simpa using (List.nodup_append.mp S.nd).1) (ex.weak fun a m => by simp at m ⊢; simp [m]) q
end
section
variable {P : Program} {w : World} {K : PySem.W.Frag} {mg : Str → Option Value} {base : Heap}
open PyProof.Rows in
theorem fn_mk {x : Str} {st : Stmt} {f : Addr} {fd : FuncData} {N ps : List Str} {k n m : Nat} {F : FS} {body : DTS} (Fd : C8.Def K mg x st f fd) (b : Binds K fd ps []) (S : FnScope N ps (C8.fnScope st)) (hn : ps.length = n) (hm : m ≤ n)
    (d : ∀ (cdv : Value) (A : Around) (outer : List Env) (s : Shared) (H : Hp) (E : XK), A.guards = some [] → Room k (A.deeper (envOfC x (C8.fnScope st) s.heap.objs.size f cdv)) → DSs (cxOf C8.CX0 P w K mg base N x (C8.fnScope st) f cdv A outer s H E).nox m (C8.fnBody st) body)
    (law : ∀ ts R, ts.length = n → F ts R → body ⟨fun G => R (G.take m) (.fz .non), retW m R⟩ (ts.map some ++ List.replicate (N.length - n) none)) : Fn P w K mg base (k + 1) x n m F :=
  ⟨f, fd, ps, fnG_of Fd.fn S (fun vs H Q E sp => sp.1.trans hn.symm) fun cdv A outer s H vs Q E hg hr sp => body_ok rfl hm (d cdv A outer s H E hg hr) law sp, Fd.mgf, Fd.kp, b⟩
open PyProof.Rows in
/-- a def of which nothing is promised -/
theorem fn_no {x : Str} {st : Stmt} {f : Addr} {fd : FuncData} {ps : List Str} {k n m : Nat} (Fd : C8.Def K mg x st f fd) (b : Binds K fd ps []) (hn : ps.length = n) : Fn P w K mg base k x n m (fun _ _ => False) :=
  ⟨f, fd, ps, ⟨fun vs H Q E sp => sp.1.trans hn.symm, fun A outer s H args us vs Q E _ _ _ _ _ sp => by obtain ⟨_, h, ts, fp, R, _, _, _, w, _⟩ := sp; exact w.elim⟩, Fd.mgf, Fd.kp, b⟩
theorem fn_up {x : Str} {k j n m : Nat} {F : FS} (h : Fn P w K mg base k x n m F) (hk : k ≤ j) : Fn P w K mg base j x n m F := by
  obtain ⟨f, fd, ps, G, a, b, c⟩ := h
  exact ⟨f, fd, ps, ⟨G.len, fun A outer s H args us vs Q E hg hr => G.run A outer s H args us vs Q E hg (hr.mono hk)⟩, a, b, c⟩
end
end DL

/-! Operators, comparisons, built-ins, over data. -/
namespace DL
open PySem PySem.Spec L2

/-! ### arithmetic -/
def addD : D2 := fun x y R => match x, y with
  | .int i, .int j => R (.fz (.int (i + j)))
  | .lst a, .lst b => a.length + b.length ≤ 10000000 ∧ R (.ls (a ++ b))
  | .tup a, .tup b => a.length + b.length ≤ 10000000 ∧ R (.fz (.tup (a ++ b)))
  | .str a, .str b => a.length + b.length ≤ 10000000 ∧ R (.fz (.str (a ++ b)))
  | _, _ => False
def subD : D2 := fun x y R => match x, y with
  | .int i, .int j => R (.fz (.int (i - j)))
  | _, _ => False
/-- one factor below 2 ^ 64, or both below 2 ^ 5000 -/
def mulOk (i j : Int) : Prop := CMul i j ∨ (i.natAbs < 2 ^ 5000 ∧ j.natAbs < 2 ^ 5000)
def repl {α : Type} (k : Nat) (a : List α) : List α := (List.replicate k a).flatten
def mulD : D2 := fun x y R => match x, y with
  | .int i, .int j => mulOk i j ∧ R (.fz (.int (i * j)))
  | .lst a, .int k => -(2 ^ 63) ≤ k ∧ k < 2 ^ 63 ∧ a.length * k.toNat ≤ 10000000 ∧ R (.ls (repl k.toNat a))
  | .tup a, .int k => a ≠ [] ∧ 2 ≤ k ∧ k ≤ 1000 ∧ a.length ≤ 1000 ∧ R (.fz (.tup (repl k.toNat a)))
  | _, _ => False
def divD : D2 := fun x y R => match x, y with
  | .int i, .int j => (0 < j ∧ j < 2 ^ 5000) ∧ R (.fz (.int (i / j)))
  | _, _ => False
def modD : D2 := fun x y R => match x, y with
  | .int i, .int j => 0 < j ∧ R (.fz (.int (i % j)))
  | _, _ => False
def powD : D2 := fun x y R => match x, y with
  | .int i, .int j => CPow i j ∧ R (.fz (.int (i ^ j.toNat)))
  | _, _ => False
def negD : D1 := fun x R => match x with
  | .int i => R (.fz (.int (-i)))
  | _ => False
theorem Ats.app {K : PySem.W.Frag} {h : Hp} {l m : List D} {l' m' : List V} (a : Ats K h l l') (b : Ats K h m m') : Ats K h (l ++ m) (l' ++ m') := Ats.append a b
theorem Ats.nil_iff {K : PySem.W.Frag} {h : Hp} {l : List D} {l' : List V} (a : Ats K h l l') : l = [] ↔ l' = [] := by cases a <;> simp
theorem Ats.repl {K : PySem.W.Frag} {h : Hp} {l : List D} {l' : List V} (a : Ats K h l l') : ∀ k : Nat, Ats K h (DL.repl k l) (List.replicate k l').flatten
  | 0 => .nil
  | k + 1 => by
    unfold DL.repl
    rw [List.replicate_succ, List.replicate_succ, List.flatten_cons, List.flatten_cons]
    exact a.app (a.repl k)
theorem sz100 {n : Nat} (h : n ≤ 10000000) : n ≤ sizeLine := Nat.le_trans h (by decide)
theorem opk_of {X : Cx} {f : Value → Value → Sem Value} {r : R2} {k : D2} (o : OpR X f r) (h : ∀ x y H Q, rOf X.K k x y H Q → r x y H Q) : OpK X f k := fun pins s σ H x y v u Q I rx ry q => o pins s σ H x y v u Q I rx ry (h _ _ _ _ q)
section
variable {X : Cx}
theorem add_ok : OpK X (binaryOp .Add) addD := by
  refine opk_of (op_add.or (op_cat.or (op_catA.or op_add_str))) fun x y H Q ⟨h, dx, dy, R, sb, ax, ay, w, c⟩ => ?_
  unfold addD at w
  split at w
  · exact .inl ⟨_, _, ax.int, ay.int, c _ H (.plain sb .int w)⟩
  · obtain ⟨p, vs, rfl, r, al⟩ := ax.lst sb
    obtain ⟨q, us, rfl, r2, al2⟩ := ay.lst sb
    exact .inr (.inl ⟨p, q, vs, us, rfl, rfl, r, r2, by rw [← al.length, ← al2.length]; exact sz100 w.1, fun p np => c _ _ (.list sb np (al.app al2) w.2)⟩)
  · obtain ⟨p, vs, rfl, r, al⟩ := ax.tup sb
    obtain ⟨q, us, rfl, r2, al2⟩ := ay.tup sb
    refine .inr (.inr (.inl ⟨p, q, vs, us, rfl, rfl, SqT.of r, SqT.of r2, by rw [← al.length, ← al2.length]; exact sz100 w.1, fun e => ?_, fun e e2 => ?_, fun _ _ p np => c _ _ (.tup sb np (al.app al2) w.2)⟩))
    · have z := al.nil_iff.mpr e
      subst z
      cases ay with
      | of a => exact c _ H (.plain sb a w.2)
    · have z := al2.nil_iff.mpr e2
      subst z
      have w2 := w.2
      rw [List.append_nil] at w2
      cases ax with
      | of a => exact c _ H (.plain sb a w2)
  · exact .inr (.inr (.inr ⟨_, _, ax.str, ay.str, sz100 w.1, c _ H (.plain sb .str w.2)⟩))
  · exact w.elim
theorem sub_ok : OpK X (binaryOp .Sub) subD := by
  refine opk_of op_sub fun x y H Q ⟨h, dx, dy, R, sb, ax, ay, w, c⟩ => ?_
  unfold subD at w
  split at w
  · exact ⟨_, _, ax.int, ay.int, c _ H (.plain sb .int w)⟩
  · exact w.elim
theorem neg_ok : UnK X (unaryOp .USub) negD := by
  have o : UnR X (unaryOp .USub) _ := un_neg
  intro pins s σ H x v Q I rx ⟨h, dx, R, sb, ax, w, c⟩
  refine o pins s σ H x v Q I rx ?_
  unfold negD at w
  split at w
  · exact ⟨_, ax.int, c _ H (.plain sb .int w)⟩
  · exact w.elim
theorem mod_ok : OpK X (binaryOp .Mod) modD := by
  refine opk_of op_mod fun x y H Q ⟨h, dx, dy, R, sb, ax, ay, w, c⟩ => ?_
  unfold modD at w
  split at w
  · exact ⟨_, _, ax.int, ay.int, w.1, c _ H (.plain sb .int w.2)⟩
  · exact w.elim
theorem pow_ok : OpK X (binaryOp .Pow) powD := by
  refine opk_of op_pow fun x y H Q ⟨h, dx, dy, R, sb, ax, ay, w, c⟩ => ?_
  unfold powD at w
  split at w
  · exact ⟨_, _, ax.int, ay.int, w.1, c _ H (.plain sb .int w.2)⟩
  · exact w.elim

/-! ### comparisons -/
def cmpI (p : Int → Int → Bool) : D2 := fun x y R => match x, y with
  | .int i, .int j => R (.fz (.bl (p i j)))
  | _, _ => False
def lexLt : List Int → List Int → Bool
  | [], [] => false
  | [], _ :: _ => true
  | _ :: _, [] => false
  | a :: r, b :: s => decide (a < b) || (decide (a = b) && lexLt r s)
theorem cmpI_of {op : CmpOp} {p : Int → Int → Bool} (o : OpR X (compareOp op) (rI0 fun i j => .bl (p i j))) : OpK X (compareOp op) (cmpI p) := by
  refine opk_of o fun x y H Q ⟨h, dx, dy, R, sb, ax, ay, w, c⟩ => ?_
  unfold cmpI at w
  split at w
  · exact ⟨_, _, ax.int, ay.int, c _ H (.plain sb .bl w)⟩
  · exact w.elim
theorem lt_ok : OpK X (compareOp .Lt) (cmpI fun i j => decide (i < j)) := cmpI_of op_lt
theorem le_ok : OpK X (compareOp .LtE) (cmpI fun i j => decide (i ≤ j)) := cmpI_of op_le
theorem gt_ok : OpK X (compareOp .Gt) (cmpI fun i j => decide (j < i)) := cmpI_of op_gt
theorem ge_ok : OpK X (compareOp .GtE) (cmpI fun i j => decide (j ≤ i)) := cmpI_of op_ge
end
mutual
/-- the library's data -/
def D.py : D → PyData
  | .non => .none
  | .bl b => .bool b
  | .int i => .int i
  | .str x => .str x
  | .tup l => .tuple (D.pys l)
  | .lst l => .list (D.pys l)
  | .opq _ => .dict []
  | .dK _ => .dict []
  | .dT _ => .dict []
  | .scr _ => .dict []
def D.pys : List D → List PyData
  | [] => []
  | d :: r => d.py :: D.pys r
end
mutual
theorem At.dp {K : PySem.W.Frag} {h H : Hp} (sb : Sub h H) : ∀ {d v}, At K h d v → d.py.canLay0 = true → Dp K H v d.py
  | _, _, .non, _ => .non
  | _, _, .bl, _ => .bl _
  | _, _, .int, _ => .int _
  | _, _, .str, _ => .str _
  | _, _, .tup e r, c => .tup (SqT.of (sb.tup e)) (Ats.dp sb r c)
  | _, _, .lst e r, c => .lst (SqL.of (sb.lst e)) (Ats.dp sb r c)
  | _, _, .scr _, c => by simp [D.py, PyData.canLay0] at c
  | _, _, .opq, c => by simp [D.py, PyData.canLay0] at c
  | _, _, .dK .., c => by simp [D.py, PyData.canLay0] at c
  | _, _, .dT .., c => by simp [D.py, PyData.canLay0] at c
theorem Ats.dp {K : PySem.W.Frag} {h H : Hp} (sb : Sub h H) : ∀ {d v}, Ats K h d v → PyData.canLayAll0 (D.pys d) = true → DpAll K H v (D.pys d)
  | _, _, .nil, _ => .nil
  | _, _, .cons a r, c => by
    simp only [D.pys, PyData.canLayAll0, Bool.and_eq_true] at c
    exact .cons (At.dp sb a c.1) (Ats.dp sb r c.2)
end
theorem AtR.dp {K : PySem.W.Frag} {h H : Hp} (sb : Sub h H) {d : D} {v : V} (a : AtR K h H d v) (c : d.py.canLay0 = true) : Dp K H v d.py := by
  cases a with
  | of a => exact a.dp sb c
  | ls e r => exact .lst (SqL.of e) (r.dp sb c)
  | dk _ _ => simp [D.py, PyData.canLay0] at c
  | dt _ _ => simp [D.py, PyData.canLay0] at c
/-- data that may be compared -/
def D.shp (d : D) : Prop := SeqAt.shaped d.py = true
def D.eqv (a b : D) : Bool := PyData.eqv a.py b.py
def eqD : D2 := fun x y R => x.shp ∧ y.shp ∧ R (.fz (.bl (D.eqv x y)))
def neD : D2 := fun x y R => x.shp ∧ y.shp ∧ R (.fz (.bl (!D.eqv x y)))
/-- x in y: a list, a tuple, a dict -/
def inD (neg : Bool) : D2 := fun x y R => match y with
  | .lst l => x.shp ∧ (D.lst l).shp ∧ R (.fz (.bl (neg != l.any fun z => D.eqv z x)))
  | .tup l => x.shp ∧ (D.tup l).shp ∧ R (.fz (.bl (neg != l.any fun z => D.eqv z x)))
  | .dK l => (match keyOf x with | some k => R (.fz (.bl (neg != (look l k).isSome))) | none => False)
  | .dT l => (match x with | .tup ds => (match keysOf ds with | some k => R (.fz (.bl (neg != (look l k).isSome))) | none => False) | _ => False)
  | _ => False
def isNoneD (neg : Bool) : D2 := fun x y R => match y with
  | .non => (match x with | .opq _ => False | .non => R (.fz (.bl (neg != true))) | _ => R (.fz (.bl (neg != false))))
  | _ => False
theorem pys_any (l : List D) (x : D) : ((D.pys l).any fun z => PyData.eqv z x.py) = l.any fun z => D.eqv z x := by
  induction l with
  | nil => rfl
  | cons d r ih => simp [D.pys, ih, D.eqv]
section
variable {X : Cx}
theorem eq_ok (hu : X.A.units + 64 < cLine) : OpK X (compareOp .Eq) eqD := by
  refine opk_of (op_eqD hu) fun x y H Q ⟨h, dx, dy, R, sb, ax, ay, w, c⟩ => ?_
  exact ⟨_, _, ax.dp sb (SeqAt.canLay_of_shaped w.1), ay.dp sb (SeqAt.canLay_of_shaped w.2.1), w.1, w.2.1, c _ H (.plain sb .bl w.2.2)⟩
theorem ne_ok (hu : X.A.units + 64 < cLine) : OpK X (compareOp .NotEq) neD := by
  refine opk_of (op_neD hu) fun x y H Q ⟨h, dx, dy, R, sb, ax, ay, w, c⟩ => ?_
  exact ⟨_, _, ax.dp sb (SeqAt.canLay_of_shaped w.1), ay.dp sb (SeqAt.canLay_of_shaped w.2.1), w.1, w.2.1, c _ H (.plain sb .bl w.2.2)⟩
/-- in a tuple of data -/
theorem op_inDT (hu : X.A.units + 65 < cLine) : OpR X (compareOp .In) (fun x y H Q => ∃ d ds, Dp X.K H x d ∧ Dp X.K H y (.tuple ds) ∧ SeqAt.shaped d = true ∧ SeqAt.shaped (.tuple ds) = true ∧ Q (.bl (ds.any fun z => PyData.eqv z d)) H) := by
  intro pins s σ H x y v u Q I rx ry h
  obtain ⟨d, ds, hd, he, sd, se, q⟩ := h
  obtain ⟨as, r1⟩ := Dp.reads I d x v hd rx
  obtain ⟨bs, r2⟩ := Dp.reads I (.tuple ds) y u he ry
  exact SeqAt.in_tuple_reads r2 r1 (SeqAt.canLay_of_shaped se) (SeqAt.canLay_of_shaped sd) (PyProof.Rows.room_in_shaped sd hu) ⟨.bl _, H, I, rfl, q⟩
theorem op_notInDT (hu : X.A.units + 65 < cLine) : OpR X (compareOp .NotIn) (fun x y H Q => ∃ d ds, Dp X.K H x d ∧ Dp X.K H y (.tuple ds) ∧ SeqAt.shaped d = true ∧ SeqAt.shaped (.tuple ds) = true ∧ Q (.bl (!ds.any fun z => PyData.eqv z d)) H) := by
  intro pins s σ H x y v u Q I rx ry h
  obtain ⟨d, ds, hd, he, sd, se, q⟩ := h
  obtain ⟨as, r1⟩ := Dp.reads I d x v hd rx
  obtain ⟨bs, r2⟩ := Dp.reads I (.tuple ds) y u he ry
  exact SeqAt.notIn_tuple_reads r2 r1 (SeqAt.canLay_of_shaped se) (SeqAt.canLay_of_shaped sd) (PyProof.Rows.room_in_shaped sd hu) ⟨.bl _, H, I, rfl, q⟩
theorem op_inDict (hu : X.A.units + 1 < cLine) : OpR X (compareOp .In) (fun y x H Q => ∃ a o, x = .ref a ∧ DGet H a y o ∧ Q (.bl o.isSome) H) := by
  intro pins s σ H y x v u Q I ry rx ⟨a, o, e, g, q⟩
  subst e
  obtain rfl : u = Value.ref a := rx
  exact d_in hu I g ry fun s3 I3 => ⟨.bl o.isSome, H, I3, rfl, q⟩
theorem op_notInDict (hu : X.A.units + 1 < cLine) : OpR X (compareOp .NotIn) (fun y x H Q => ∃ a o, x = .ref a ∧ DGet H a y o ∧ Q (.bl (!o.isSome)) H) := by
  intro pins s σ H y x v u Q I ry rx ⟨a, o, e, g, q⟩
  subst e
  obtain rfl : u = Value.ref a := rx
  exact d_notIn hu I g ry fun s3 I3 => ⟨.bl (!o.isSome), H, I3, rfl, q⟩
theorem some_same {α : Type} {K : PySem.W.Frag} {h : Hp} {o : Option V} {e : Option D} (g1 : ∀ d, e = some d → ∃ v, o = some v ∧ At K h d v) (g2 : e = none → o = none) : o.isSome = e.isSome := by
  cases e with
  | none => rw [g2 rfl]; rfl
  | some d => obtain ⟨v, rfl, _⟩ := g1 d rfl; rfl
theorem in_ok (hu : X.A.units + 65 < cLine) : OpK X (compareOp .In) (inD false) := by
  refine opk_of ((op_inD hu).or ((op_inDT hu).or (op_inDict (by omega)))) fun x y H Q ⟨h, dx, dy, R, sb, ax, ay, w, c⟩ => ?_
  unfold inD at w
  split at w
  · refine .inl ⟨_, _, ax.dp sb (SeqAt.canLay_of_shaped w.1), ay.dp sb (SeqAt.canLay_of_shaped w.2.1), w.1, w.2.1, c _ H (.plain sb .bl ?_)⟩
    rw [pys_any]; simpa using w.2.2
  · refine .inr (.inl ⟨_, _, ax.dp sb (SeqAt.canLay_of_shaped w.1), ay.dp sb (SeqAt.canLay_of_shaped w.2.1), w.1, w.2.1, c _ H (.plain sb .bl ?_)⟩)
    rw [pys_any]; simpa using w.2.2
  · rename_i l
    split at w
    · rename_i k ek
      obtain ⟨a, o, rfl, g, g1, g2⟩ := (dict_get sb ay ax).1 l k rfl ek
      refine .inr (.inr ⟨a, o, rfl, g, c _ H (.plain sb .bl ?_)⟩)
      rw [some_same (α := Unit) g1 g2]; simpa using w
    · exact w.elim
  · rename_i l
    split at w
    · rename_i ds
      split at w
      · rename_i k ek
        obtain ⟨a, o, rfl, g, g1, g2⟩ := (dict_get sb ay ax).2 l ds k rfl rfl ek
        refine .inr (.inr ⟨a, o, rfl, g, c _ H (.plain sb .bl ?_)⟩)
        rw [some_same (α := Unit) g1 g2]; simpa using w
      · exact w.elim
    · exact w.elim
  · exact w.elim
theorem notin_ok (hu : X.A.units + 65 < cLine) : OpK X (compareOp .NotIn) (inD true) := by
  refine opk_of ((op_notInD hu).or ((op_notInDT hu).or (op_notInDict (by omega)))) fun x y H Q ⟨h, dx, dy, R, sb, ax, ay, w, c⟩ => ?_
  unfold inD at w
  split at w
  · refine .inl ⟨_, _, ax.dp sb (SeqAt.canLay_of_shaped w.1), ay.dp sb (SeqAt.canLay_of_shaped w.2.1), w.1, w.2.1, c _ H (.plain sb .bl ?_)⟩
    rw [pys_any]; simpa using w.2.2
  · refine .inr (.inl ⟨_, _, ax.dp sb (SeqAt.canLay_of_shaped w.1), ay.dp sb (SeqAt.canLay_of_shaped w.2.1), w.1, w.2.1, c _ H (.plain sb .bl ?_)⟩)
    rw [pys_any]; simpa using w.2.2
  · rename_i l
    split at w
    · rename_i k ek
      obtain ⟨a, o, rfl, g, g1, g2⟩ := (dict_get sb ay ax).1 l k rfl ek
      refine .inr (.inr ⟨a, o, rfl, g, c _ H (.plain sb .bl ?_)⟩)
      rw [some_same (α := Unit) g1 g2]; simpa using w
    · exact w.elim
  · rename_i l
    split at w
    · rename_i ds
      split at w
      · rename_i k ek
        obtain ⟨a, o, rfl, g, g1, g2⟩ := (dict_get sb ay ax).2 l ds k rfl rfl ek
        refine .inr (.inr ⟨a, o, rfl, g, c _ H (.plain sb .bl ?_)⟩)
        rw [some_same (α := Unit) g1 g2]; simpa using w
      · exact w.elim
    · exact w.elim
  · exact w.elim
end
end DL

/-! Built-in calls, methods that change a node, stores. -/
namespace DL
open PySem PySem.Spec L2

theorem ca_of {X : Cx} {f : Value} {r : List V → Hp → VK → Prop} {k : DN} (o : CallR X f r) (h : ∀ xs H Q, rOfN X.K k xs H Q → r xs H Q) : CaK X f k := fun pins s σ H xs us Q I rs q => o pins s σ H xs us Q I rs (h _ _ _ q)
theorem CallR.or {X : Cx} {f : Value} {r r' : List V → Hp → VK → Prop} (h : CallR X f r) (h' : CallR X f r') : CallR X f (fun x H Q => r x H Q ∨ r' x H Q) := fun pins s σ H xs us Q I rs q => by
  rcases q with q | q
  · exact h pins s σ H xs us Q I rs q
  · exact h' pins s σ H xs us Q I rs q
theorem AtRs.one {K : PySem.W.Frag} {h H : Hp} {d : D} {vs : List V} (a : AtRs K h H [d] vs) : ∃ v, vs = [v] ∧ AtR K h H d v := by
  cases a with | cons a r => cases r; exact ⟨_, rfl, a⟩
theorem AtRs.two {K : PySem.W.Frag} {h H : Hp} {d e : D} {vs : List V} (a : AtRs K h H [d, e] vs) : ∃ v u, vs = [v, u] ∧ AtR K h H d v ∧ AtR K h H e u := by
  cases a with | cons a r => cases r with | cons b r => cases r; exact ⟨_, _, rfl, a, b⟩
def lenD : DN := fun ds R => match ds with
  | [.lst l] => R (.fz (.int l.length))
  | [.tup l] => R (.fz (.int l.length))
  | [.scr l] => R (.fz (.int l.length))
  | [.str x] => x.length ≤ 10000000 ∧ R (.fz (.int x.length))
  | _ => False
def min2D : DN := fun ds R => match ds with | [.int i, .int j] => R (.fz (.int (if j < i then j else i))) | _ => False
def max2D : DN := fun ds R => match ds with | [.int i, .int j] => R (.fz (.int (if j > i then j else i))) | _ => False
def absD : DN := fun ds R => match ds with | [.int i] => R (.fz (.int (if i < 0 then -i else i))) | _ => False
def intD : DN := fun ds R => match ds with | [.int i] => R (.fz (.int i)) | [.bl b] => R (.fz (.int (if b then 1 else 0))) | _ => False
def listD : DN := fun ds R => match ds with | [.lst l] => R (.ls l) | [.tup l] => R (.ls l) | _ => False
def tupleD : DN := fun ds R => match ds with | [.lst l] => R (.fz (.tup l)) | [.tup l] => R (.fz (.tup l)) | _ => False
def allD : DN := fun ds R => match ds with | [.lst l] => ∃ bs : List Bool, l = bs.map .bl ∧ R (.fz (.bl (bs.all id))) | _ => False
def anyD : DN := fun ds R => match ds with | [.lst l] => ∃ bs : List Bool, l = bs.map .bl ∧ R (.fz (.bl (bs.any id))) | _ => False
def sumD : DN := fun ds R => match ds with | [.lst l] => ∃ ns : List Int, l = ns.map .int ∧ R (.fz (.int ns.sum)) | _ => False
def maxD : DN := fun ds R => match ds with | [.lst l] => ∃ ns : List Int, l = ns.map .int ∧ 0 < ns.length ∧ ∀ m, m ∈ ns → (∀ y, y ∈ ns → y ≤ m) → R (.fz (.int m)) | _ => False
def minD : DN := fun ds R => match ds with | [.lst l] => ∃ ns : List Int, l = ns.map .int ∧ 0 < ns.length ∧ ∀ m, m ∈ ns → (∀ y, y ∈ ns → m ≤ y) → R (.fz (.int m)) | _ => False
theorem ats_ints {K : PySem.W.Frag} {h : Hp} : ∀ {ns : List Int} {vs : List V}, Ats K h (ns.map .int) vs → vs = ns.map V.int
  | [], _, .nil => rfl
  | n :: r, _, .cons a ar => by cases a; rw [ats_ints ar]; rfl
theorem ats_bls {K : PySem.W.Frag} {h : Hp} : ∀ {ns : List Bool} {vs : List V}, Ats K h (ns.map .bl) vs → vs = ns.map V.bl
  | [], _, .nil => rfl
  | n :: r, _, .cons a ar => by cases a; rw [ats_bls ar]; rfl
/-- pairs of ints -/
abbrev pairD (p : Int × Int) : D := .tup [.int p.1, .int p.2]
def leP (a b : Int × Int) : Prop := a.1 < b.1 ∨ (a.1 = b.1 ∧ a.2 ≤ b.2)
def sortedD : DN := fun ds R => match ds with
  | [.lst l] => (∃ ns : List Int, l = ns.map .int ∧ ∀ ns' : List Int, ns'.Perm ns → ns'.Pairwise (· ≤ ·) → R (.ls (ns'.map .int))) ∨
      (∃ ps : List (Int × Int), l = ps.map pairD ∧ ∀ ps' : List (Int × Int), ps'.Perm ps → ps'.Pairwise leP → R (.ls (ps'.map pairD)))
  | [.dK l] => ∃ ks : List Int, l.map (·.1) = ks.map Sum.inl ∧ ks.length < 64 ∧ ∀ ns' : List Int, ns'.Perm ks → ns'.Pairwise (· ≤ ·) → R (.ls (ns'.map .int))
  | _ => False
section
variable {X : Cx}
theorem len_ok : CaK X (.builtin "len") lenD := by
  refine ca_of (CallR.or call_len_seq (call_len (X := X))) fun xs H Q ⟨h, ds, R, sb, a, w, c⟩ => ?_
  unfold lenD at w
  split at w
  · obtain ⟨v, rfl, a1⟩ := a.one
    obtain ⟨p, vs, rfl, r, al⟩ := a1.lst sb
    exact .inl ⟨p, vs, rfl, .inl (SqL.of r), by rw [← al.length]; exact c _ H (.plain sb .int w)⟩
  · obtain ⟨v, rfl, a1⟩ := a.one
    obtain ⟨p, vs, rfl, r, al⟩ := a1.tup sb
    exact .inl ⟨p, vs, rfl, .inr (SqT.of r), by rw [← al.length]; exact c _ H (.plain sb .int w)⟩
  · obtain ⟨v, rfl, a1⟩ := a.one
    cases a1 with
    | of a1 => cases a1 with | scr e => exact .inl ⟨_, _, rfl, .inl (sb.sql e), by rw [List.length_map]; exact c _ H (.plain sb .int w)⟩
  · obtain ⟨v, rfl, a1⟩ := a.one
    rw [a1.str]
    exact .inr ⟨_, _, rfl, ⟨sz100 w.1, rfl⟩, c _ H (.plain sb .int w.2)⟩
  · exact w.elim
theorem min2_ok (hc : X.calm = true) : CaK X (.builtin "min") min2D := by
  refine ca_of (call_min2 hc) fun xs H Q ⟨h, ds, R, sb, a, w, c⟩ => ?_
  unfold min2D at w
  split at w
  · obtain ⟨v, u, rfl, a1, b1⟩ := a.two
    rw [a1.int, b1.int]
    exact ⟨_, _, rfl, c _ H (.plain sb .int w)⟩
  · exact w.elim
theorem max2_ok (hc : X.calm = true) : CaK X (.builtin "max") max2D := by
  refine ca_of (call_max2 hc) fun xs H Q ⟨h, ds, R, sb, a, w, c⟩ => ?_
  unfold max2D at w
  split at w
  · obtain ⟨v, u, rfl, a1, b1⟩ := a.two
    rw [a1.int, b1.int]
    exact ⟨_, _, rfl, c _ H (.plain sb .int w)⟩
  · exact w.elim
theorem abs_ok : CaK X (.builtin "abs") absD := by
  refine ca_of call_abs fun xs H Q ⟨h, ds, R, sb, a, w, c⟩ => ?_
  unfold absD at w
  split at w
  · obtain ⟨v, rfl, a1⟩ := a.one
    rw [a1.int]
    exact ⟨_, rfl, c _ H (.plain sb .int w)⟩
  · exact w.elim
theorem int_ok : CaK X (.type "int") intD := by
  refine ca_of call_int1 fun xs H Q ⟨h, ds, R, sb, a, w, c⟩ => ?_
  unfold intD at w
  split at w
  · obtain ⟨v, rfl, a1⟩ := a.one
    rw [a1.int]
    exact .inl ⟨_, rfl, c _ H (.plain sb .int w)⟩
  · obtain ⟨v, rfl, a1⟩ := a.one
    rw [a1.bl]
    exact .inr ⟨_, rfl, c _ H (.plain sb .int w)⟩
  · exact w.elim
theorem list_ok : CaK X (.type "list") listD := by
  refine ca_of call_list_of fun xs H Q ⟨h, ds, R, sb, a, w, c⟩ => ?_
  unfold listD at w
  split at w
  · obtain ⟨v, rfl, a1⟩ := a.one
    obtain ⟨p, vs, rfl, r, al⟩ := a1.lst sb
    exact ⟨p, vs, rfl, .inl (SqL.of r), fun l nl => c _ _ (.list sb nl al w)⟩
  · obtain ⟨v, rfl, a1⟩ := a.one
    obtain ⟨p, vs, rfl, r, al⟩ := a1.tup sb
    exact ⟨p, vs, rfl, .inr (SqT.of r), fun l nl => c _ _ (.list sb nl al w)⟩
  · exact w.elim
theorem tuple_ok : CaK X (.type "tuple") tupleD := by
  refine ca_of call_tuple_of fun xs H Q ⟨h, ds, R, sb, a, w, c⟩ => ?_
  unfold tupleD at w
  split at w
  · obtain ⟨v, rfl, a1⟩ := a.one
    obtain ⟨p, vs, rfl, r, al⟩ := a1.lst sb
    exact ⟨p, vs, rfl, .inl ⟨SqL.of r, fun l nl => c _ _ (.tup sb nl al w)⟩⟩
  · obtain ⟨v, rfl, a1⟩ := a.one
    cases a1 with
    | of a1 => cases a1 with | tup e r => exact ⟨_, _, rfl, .inr ⟨SqT.of (sb.tup e), c _ H (.plain sb (.tup e r) w)⟩⟩
  · exact w.elim
theorem all_ok (hc : X.calm = true) : CaK X (.builtin "all") allD := by
  refine ca_of (cr_all hc) fun xs H Q ⟨h, ds, R, sb, a, w, c⟩ => ?_
  unfold allD at w
  split at w
  · obtain ⟨v, rfl, a1⟩ := a.one
    obtain ⟨bs, rfl, w⟩ := w
    obtain ⟨p, vs, rfl, r, al⟩ := a1.lst sb
    exact ⟨p, bs, rfl, by rw [← ats_bls al]; exact SqL.of r, c _ H (.plain sb .bl w)⟩
  · exact w.elim
theorem any_ok (hc : X.calm = true) : CaK X (.builtin "any") anyD := by
  refine ca_of (cr_any hc) fun xs H Q ⟨h, ds, R, sb, a, w, c⟩ => ?_
  unfold anyD at w
  split at w
  · obtain ⟨v, rfl, a1⟩ := a.one
    obtain ⟨bs, rfl, w⟩ := w
    obtain ⟨p, vs, rfl, r, al⟩ := a1.lst sb
    exact ⟨p, bs, rfl, by rw [← ats_bls al]; exact SqL.of r, c _ H (.plain sb .bl w)⟩
  · exact w.elim
theorem sum_ok (hc : X.calm = true) : CaK X (.builtin "sum") sumD := by
  refine ca_of (cr_sum hc) fun xs H Q ⟨h, ds, R, sb, a, w, c⟩ => ?_
  unfold sumD at w
  split at w
  · obtain ⟨v, rfl, a1⟩ := a.one
    obtain ⟨bs, rfl, w⟩ := w
    obtain ⟨p, vs, rfl, r, al⟩ := a1.lst sb
    exact ⟨p, bs, rfl, by rw [← ats_ints al]; exact SqL.of r, c _ H (.plain sb .int w)⟩
  · exact w.elim
theorem max_ok (hc : X.calm = true) : CaK X (.builtin "max") maxD := by
  refine ca_of (cr_max hc) fun xs H Q ⟨h, ds, R, sb, a, w, c⟩ => ?_
  unfold maxD at w
  split at w
  · obtain ⟨v, rfl, a1⟩ := a.one
    obtain ⟨bs, rfl, hl, w⟩ := w
    obtain ⟨p, vs, rfl, r, al⟩ := a1.lst sb
    exact ⟨p, bs, rfl, by rw [← ats_ints al]; exact SqL.of r, hl, fun m h1 h2 => c _ H (.plain sb .int (w m h1 h2))⟩
  · exact w.elim
theorem min_ok (hc : X.calm = true) : CaK X (.builtin "min") minD := by
  refine ca_of (cr_min hc) fun xs H Q ⟨h, ds, R, sb, a, w, c⟩ => ?_
  unfold minD at w
  split at w
  · obtain ⟨v, rfl, a1⟩ := a.one
    obtain ⟨bs, rfl, hl, w⟩ := w
    obtain ⟨p, vs, rfl, r, al⟩ := a1.lst sb
    exact ⟨p, bs, rfl, by rw [← ats_ints al]; exact SqL.of r, hl, fun m h1 h2 => c _ H (.plain sb .int (w m h1 h2))⟩
  · exact w.elim
/-! sorted -/
theorem ats_pairs {K : PySem.W.Frag} {h : Hp} : ∀ {ps : List (Int × Int)} {vs : List V}, Ats K h (ps.map pairD) vs → ∃ ts : List (Addr × Int × Int), vs = ts.map (fun t => V.ref t.1) ∧ ps = ts.map (·.2) ∧ ∀ t ∈ ts, h t.1 = some (.tup [.int t.2.1, .int t.2.2])
  | [], _, .nil => ⟨[], rfl, rfl, fun _ m => nomatch m⟩
  | p :: r, _, .cons a ar => by
    obtain ⟨ts, e1, e2, e3⟩ := ats_pairs ar
    cases a with
    | @tup a _ vs e r =>
      cases r with | cons x1 r => cases r with | cons x2 r => cases r; cases x1; cases x2; exact ⟨(a, p) :: ts, by rw [e1]; rfl, by rw [e2]; rfl, fun t m => by
        rcases List.mem_cons.mp m with rfl | m
        · exact e
        · exact e3 t m⟩
theorem pairs_ats {K : PySem.W.Frag} {h : Hp} : ∀ {ts : List (Addr × Int × Int)}, (∀ t ∈ ts, h t.1 = some (.tup [.int t.2.1, .int t.2.2])) → Ats K h ((ts.map (·.2)).map pairD) (ts.map fun t => V.ref t.1)
  | [], _ => .nil
  | t :: r, e => .cons (.tup (e t (by simp)) (.cons .int (.cons .int .nil))) (pairs_ats fun t m => e t (by simp [m]))
theorem key_of (ts : List (Addr × Int × Int)) (hs : ∀ t ∈ ts, ∀ u ∈ ts, t.1 = u.1 → t.2 = u.2) : ∃ k : V → Int × Int, ∀ t ∈ ts, k (V.ref t.1) = t.2 := by
  refine ⟨fun v => match v with | .ref a => ((ts.find? fun t => t.1 == a).map (·.2)).getD (0, 0) | _ => (0, 0), fun t m => ?_⟩
  show ((ts.find? fun u => u.1 == t.1).map (·.2)).getD (0, 0) = t.2
  cases q : ts.find? fun u => u.1 == t.1 with
  | none => exact absurd (List.find?_eq_none.mp q t m) (by simp)
  | some u =>
    have h1 := List.find?_some q
    have h2 := List.mem_of_find?_eq_some q
    exact hs u h2 t m (by simpa using h1)
theorem perm_map_inv {α β : Type} {f : α → β} : ∀ {l : List β} {m : List α}, l.Perm (m.map f) → ∃ m' : List α, m'.Perm m ∧ l = m'.map f := fun {l m} p => by
  generalize e : m.map f = b at p
  induction p generalizing m with
  | nil => exact ⟨[], by simpa using e, rfl⟩
  | @cons x l1 l2 p ih =>
    cases m with
    | nil => cases e
    | cons y m =>
      cases e
      obtain ⟨m', p', rfl⟩ := ih rfl
      exact ⟨y :: m', p'.cons y, rfl⟩
  | swap x y l =>
    cases m with
    | nil => cases e
    | cons a m =>
      cases m with
      | nil => cases e
      | cons b m => cases e; exact ⟨b :: a :: m, .swap a b m, rfl⟩
  | trans p1 p2 ih1 ih2 =>
    obtain ⟨m2, q2, rfl⟩ := ih2 e
    obtain ⟨m1, q1, rfl⟩ := ih1 rfl
    exact ⟨m1, q1.trans q2, rfl⟩
theorem sorted_ok (hc : X.calm = true) : CaK X (.builtin "sorted") sortedD := by
  refine ca_of (CallR.or cr_sortedI (CallR.or cr_sortedPO (call_sortedDI hc))) fun xs H Q ⟨h, ds, R, sb, a, w, c⟩ => ?_
  unfold sortedD at w
  split at w
  · obtain ⟨v, rfl, a1⟩ := a.one
    obtain ⟨p, vs, rfl, r, al⟩ := a1.lst sb
    rcases w with ⟨ns, rfl, w⟩ | ⟨ps, rfl, w⟩
    · exact .inl ⟨p, ns, rfl, by rw [← ats_ints al]; exact SqL.of r, fun ns' q p1 p2 np => c _ _ (.list sb np ints_ats (w ns' p1 p2))⟩
    · obtain ⟨ts, rfl, rfl, et⟩ := ats_pairs al
      have eH : ∀ t ∈ ts, H t.1 = some (.tup [.int t.2.1, .int t.2.2]) := fun t m => sb.tup (et t m)
      obtain ⟨k, hk⟩ := key_of ts fun t m u m2 e => by
        have e1 := et t m
        have e2 := et u m2
        rw [e, e2] at e1
        simp only [Option.some.injEq, HO.tup.injEq, List.cons.injEq, V.int.injEq, and_true] at e1
        exact Prod.ext e1.1.symm e1.2.symm
      refine .inr (.inl ⟨p, _, k, rfl, SqL.of r, fun x m => ?_, fun ys q srt stb nq => ?_⟩)
      · obtain ⟨t, mt, rfl⟩ := List.mem_map.mp m
        exact ⟨t.1, rfl, by rw [hk t mt]; exact eH t mt⟩
      · obtain ⟨ts', pt, rfl⟩ := perm_map_inv stb.perm
        have et' : ∀ t ∈ ts', h t.1 = some (.tup [.int t.2.1, .int t.2.2]) := fun t m => et t (pt.mem_iff.mp m)
        refine c _ _ (.list sb nq (pairs_ats et') (w _ (pt.map _) ?_))
        have srt2 := List.pairwise_map.mp srt
        refine List.pairwise_map.mpr (srt2.imp_of_mem fun {t u} m1 m2 hh => ?_)
        have hh2 : SrtO.lexB (k (V.ref u.1)) (k (V.ref t.1)) = false := hh
        rw [hk t (pt.mem_iff.mp m1), hk u (pt.mem_iff.mp m2)] at hh2
        have := SrtO.lexB_no.mp hh2
        unfold leP
        omega
  · obtain ⟨v, rfl, a1⟩ := a.one
    obtain ⟨ks, ek, h64, w⟩ := w
    obtain ⟨p, vs, rfl, r, al⟩ := a1.dK sb
    have keys : ∀ {l : List (Key × D)} {m : List (Key × V)}, AtK X.K h l m → m.map (·.1) = l.map (·.1) := fun {l m} q => by
      induction l generalizing m with
      | nil => cases q; rfl
      | cons x l ih => cases q with | cons _ q => simp [ih q]
    exact .inr (.inr ⟨p, vs, ks, rfl, r, by rw [keys al]; exact ek, h64, fun ns' q p1 p2 np => c _ _ (.list sb np ints_ats (w ns' p1 p2))⟩)
  · exact w.elim
end
end DL

/-! isinstance, slices, methods that change a node, stores, chains. -/
namespace DL
open PySem PySem.Spec L2
section
variable {X : Cx}
theorem mul_ok : OpK X (binaryOp .Mult) mulD := by
  have rep : OpR X (binaryOp .Mult) (fun x y H Q => ∃ l k xs, x = .ref l ∧ y = .int k ∧ (H l = some (.lst xs) ∧ -(2 ^ 63) ≤ k ∧ k < 2 ^ 63 ∧ xs.length * k.toNat ≤ sizeLine) ∧ ∀ p, H p = none → Q (.ref p) (upd H p (.lst (List.replicate k.toNat xs).flatten))) := by
    intro pins s σ H x y v u Q I rx ry ⟨l, k, xs, e1, e2, ⟨h1, h2, h3, h4⟩, q⟩
    exact op_rep pins s σ H x y v u Q I rx ry ⟨l, k, xs, e1, e2, h1, h2, h3, h4, q⟩
  refine opk_of (op_mul.or (op_mulW.or (rep.or op_repT))) fun x y H Q ⟨h, dx, dy, R, sb, ax, ay, w, c⟩ => ?_
  unfold mulD at w
  split at w
  · obtain ⟨ok, w⟩ := w
    rcases ok with ok | ok
    · exact .inl ⟨_, _, ax.int, ay.int, ok, c _ H (.plain sb .int w)⟩
    · exact .inr (.inl ⟨_, _, ax.int, ay.int, wide_mul ok.1 ok.2 (by decide) (by decide) (by decide), c _ H (.plain sb .int w)⟩)
  · rename_i l k
    obtain ⟨h1, h2, h3, w⟩ := w
    obtain ⟨p, vs, rfl, r, al⟩ := ax.lst sb
    exact .inr (.inr (.inl ⟨p, k, vs, rfl, ay.int, ⟨r, h1, h2, by rw [← al.length]; exact sz100 h3⟩, fun q nq => c _ _ (.list sb nq (al.repl _) w)⟩))
  · rename_i l k
    obtain ⟨hne, h1, h2, h3, w⟩ := w
    obtain ⟨p, vs, rfl, r, al⟩ := ax.tup sb
    refine .inr (.inr (.inr ⟨p, k, vs, rfl, ay.int, SqT.of r, fun e => hne (al.nil_iff.mpr e), h1, h2, by rw [← al.length]; exact h3, fun p np => c _ _ (.tup sb np (al.repl _) w)⟩))
  · exact w.elim
theorem div_ok : OpK X (binaryOp .FloorDiv) divD := by
  refine opk_of op_fdivW fun x y H Q ⟨h, dx, dy, R, sb, ax, ay, w, c⟩ => ?_
  unfold divD at w
  split at w
  · rename_i i j
    obtain ⟨⟨h1, h2⟩, w⟩ := w
    refine ⟨_, _, ax.int, ay.int, wide_div h1 (b := 5000) ?_ (by decide) (by decide), c _ H (.plain sb .int w)⟩
    have : ((j.natAbs : Nat) : Int) < ((2 ^ 5000 : Nat) : Int) := by
      rw [Int.natAbs_of_nonneg (by omega)]
      rw [Int.natCast_pow]
      exact h2
    exact Int.ofNat_lt.mp this
  · exact w.elim

/-! ### isinstance -/
def D.tyn : D → String
  | .non => "NoneType"
  | .bl _ => "bool"
  | .int _ => "int"
  | .str _ => "str"
  | .tup _ => "tuple"
  | .lst _ => "list"
  | .dK _ => "dict"
  | _ => ""
/-- whether a value of the first kind is one of the second -/
def isiB : String → String → Option Bool
  | "bool", "int" => some true
  | a, b => if a ∈ ["NoneType", "bool", "int", "str", "tuple", "list", "dict"] ∧ b ∈ ["bool", "int", "str", "tuple", "list"] then some (decide (a = b)) else none
theorem isiB_ok : ∀ a ∈ ["NoneType", "bool", "int", "str", "tuple", "list", "dict"], ∀ b ∈ ["bool", "int", "str", "tuple", "list"], kitB a b = isiB a b := by decide +kernel
theorem isiB_some {a b : String} {r : Bool} (e : isiB a b = some r) : kitB a b = some r := by
  by_cases h : a ∈ ["NoneType", "bool", "int", "str", "tuple", "list", "dict"] ∧ b ∈ ["bool", "int", "str", "tuple", "list"]
  · rw [isiB_ok a h.1 b h.2]; exact e
  · unfold isiB at e
    split at e
    · exact (h (by decide)).elim
    · rw [if_neg h] at e; cases e
def isinstD : DN := fun ds R => match ds with
  | [x, .opq (.ty n)] => (match isiB x.tyn n with | some b => R (.fz (.bl b)) | none => False)
  | _ => False
theorem AtR.ty {K : PySem.W.Frag} {h H : Hp} (sb : Sub h H) {d : D} {v : V} (a : AtR K h H d v) {b : String} (hb : d.tyn = b) (hne : b ≠ "") : TyX K H v (.type b) := by
  subst hb
  cases a with
  | of a =>
    cases a with
    | non => exact .base .non
    | bl => exact .base (.bl _)
    | int => exact .base (.int _)
    | str => exact .base (.str _)
    | tup e r => exact .base (.tup (sb.tup e))
    | lst e r =>
      exact .base (.lst (sb.lst e))
    | scr e => exact (hne rfl).elim
    | dK e r =>
      rcases sb.rd e with q | ⟨o, q⟩
      · exact .base (.dK q)
      · exact .fDict q
    | opq => exact (hne rfl).elim
    | dT e r => exact (hne rfl).elim
  | ls e r => exact .base (.lst e)
  | dk e r =>
    rcases e with q | ⟨o, q⟩
    · exact .base (.dK q)
    · exact .fDict q
  | dt e r => exact (hne rfl).elim
theorem isinst_ok : CaK X (.builtin "isinstance") isinstD := by
  refine ca_of call_isi fun xs H Q ⟨h, ds, R, sb, a, w, c⟩ => ?_
  unfold isinstD at w
  split at w
  · rename_i x n
    obtain ⟨v, u, rfl, a1, b1⟩ := a.two
    split at w
    · rename_i b eb
      have eu : u = .ty n := by cases b1 with | of b1 => cases b1; rfl
      subst eu
      refine ⟨v, .ty n, .type x.tyn, .type n, b, rfl, .ty n, a1.ty sb rfl (fun z => ?_), kit_ty (isiB_some eb), c _ H (.plain sb .bl w)⟩
      rw [z] at eb
      unfold isiB at eb
      split at eb
      · rename_i hz _; exact absurd hz (by decide)
      · rw [if_neg (fun z => absurd z.1 (by decide))] at eb; cases eb
    · exact w.elim
  · exact w.elim

/-! ### slices -/
def cutL {α : Type} (xs : List α) (lo hi : Option Int) : List α := (xs.drop (HT.sIx xs.length 0 lo)).take (HT.sIx xs.length xs.length hi - HT.sIx xs.length 0 lo)
theorem Ats.drop {K : PySem.W.Frag} {h : Hp} : ∀ {l : List D} {l' : List V} (n : Nat), Ats K h l l' → Ats K h (l.drop n) (l'.drop n)
  | _, _, 0, a => a
  | _, _, n + 1, .nil => .nil
  | _, _, n + 1, .cons _ r => r.drop n
theorem Ats.take {K : PySem.W.Frag} {h : Hp} : ∀ {l : List D} {l' : List V} (n : Nat), Ats K h l l' → Ats K h (l.take n) (l'.take n)
  | _, _, 0, a => .nil
  | _, _, n + 1, .nil => .nil
  | _, _, n + 1, .cons a r => .cons a (r.take n)
theorem Ats.cut {K : PySem.W.Frag} {h : Hp} {l : List D} {l' : List V} (a : Ats K h l l') (lo hi : Option Int) : Ats K h (cutL l lo hi) (cutV l' lo hi) := by
  unfold cutL cutV
  rw [a.length]
  exact (a.drop _).take _
def sliceD (lo hi : Option Int) : D1 := fun x R => match x with
  | .lst l => R (.ls (cutL l lo hi))
  | .tup l => R (.fz (.tup (cutL l lo hi)))
  | _ => False
abbrev DTO := En → (En → Option Int → Prop) → Prop
def sO (K : PySem.W.Frag) (t : DTO) : TO := fun σ H Q' => ∃ h G fp Q, Stt K h H G σ fp ∧ t G Q ∧ ∀ o H', (∃ h' fp', Stt K h' H' G σ fp' ∧ Ext h H fp h' H' fp' ∧ (fp' = fp ∧ ∀ a ∈ fp, H' a = H a) ∧ Q G o) → Q' o H'
def DO (X : Cx) (e : Option Expr) (t : DTO) : Prop := PO X e (sO X.K t)
def oNone : DTO := fun G Q => Q G none
def oSome (te : DTE) : DTO := fun G Q => te G fun G1 v => rdW G1 v fun d => match d with | .int i => Q G1 (some i) | _ => False
theorem po_imp {e : Option Expr} {t t' : TO} (h : PO X e t) (k : ∀ σ H Q, t' σ H Q → t σ H Q) : PO X e t' := ⟨fun pins s σ H Q I q => h.run pins s σ H Q I (k σ H Q q)⟩
theorem do_none : DO X none oNone := po_imp po_none fun σ H Q ⟨h, G, fp, Q', S, w, c⟩ => c none H ⟨h, fp, S, Ext.refl h H fp, ⟨rfl, fun _ _ => rfl⟩, w⟩
theorem do_some {e : Expr} {te : DTE} (he : DE X true e te) : DO X (some e) (oSome te) := po_imp (po_some he) fun σ H Q ⟨h, G, fp, Q', S, w, c⟩ => by
  refine ⟨h, G, fp, _, S, w, fun v H1 ⟨h1, G1, f1, va, fva, r1, w1⟩ => ?_⟩
  obtain ⟨x, ax, w2⟩ := r1.ov.rd r1.st w1
  obtain ⟨rfl, p2, p3⟩ := r1.pu rfl
  split at w2
  · rename_i i
    exact ⟨i, ax.int, c _ H1 ⟨h1, f1, r1.st, r1.drop, ⟨p2, p3⟩, w2⟩⟩
  · exact w2.elim
/-- e[lo:hi], the bounds plain -/
def dSlice (te : DTE) (tl th : DTO) : DTE := fun G Q => te G fun G1 v => match v with
  | .pk i p => tl G1 fun G2 lo => th G2 fun G3 hi => rdW G3 (.pk i p) fun x => sliceD lo hi x fun t => Q G3 (.t t)
  | .t t => rdT t fun x => tl G1 fun G2 lo => th G2 fun G3 hi => sliceD lo hi x fun t => Q G3 (.t t)
def rSl (K : PySem.W.Frag) : V → Option Int → Option Int → Hp → VK → Prop := fun x lo hi H Q' => ∃ h dx R, Sub h H ∧ AtR K h H dx x ∧ sliceD lo hi dx R ∧ ∀ v H', OpPost K h H R v H' → Q' v H'
theorem cutL_all {α : Type} {l : List α} {lo hi : Option Int} (h : HT.sIx l.length 0 lo = 0 ∧ HT.sIx l.length l.length hi = l.length) : cutL l lo hi = l := by
  unfold cutL; rw [h.1, h.2]; simp
theorem sl_ok : SlR X (rSl X.K) := by
  have base := (sl_list (X := X)).or (sl_tupA (X := X))
  intro pins s σ H x v vl vu lo hi sl Q I rx hs pl pu ⟨h, dx, R, sb, ax, w, c⟩
  refine base pins s σ H x v vl vu lo hi sl Q I rx hs pl pu ?_
  unfold sliceD at w
  split at w
  · obtain ⟨p, vs, rfl, r, al⟩ := ax.lst sb
    exact .inl ⟨p, vs, rfl, SqL.of r, fun p np => c _ _ (.list sb np (al.cut lo hi) w)⟩
  · rename_i l
    cases ax with
    | of ax =>
      cases ax with
      | @tup a _ vs e al =>
        refine .inr ⟨a, vs, rfl, SqT.of (sb.tup e), fun hw => c _ H (.plain sb (.tup e al) ?_), fun _ p np => c _ _ (.tup sb np (al.cut lo hi) w)⟩
        rw [← al.length] at hw
        rw [cutL_all hw] at w
        exact w
  · exact w.elim
/-- what was readable stays so where no node changes -/
theorem AtR.keep {K : PySem.W.Frag} {h H h' H' : Hp} {d : D} {v : V} (a : AtR K h H d v) (s : Same h h') (g : Sub H H') : AtR K h' H' d v := by
  cases a with
  | of a => exact .of (a.mono s)
  | ls e r => exact .ls (g.lst e) (r.mono s)
  | dk e r => exact .dk (g.rd e) (r.mono s)
  | dt e r => exact .dt (g.rd e) (r.mono s)
theorem de_slice {pa : Bool} {e : Expr} {lo hi : Option Expr} {te : DTE} {tl th : DTO} {p2 pos : Pos} (he : DE X pa e te) (hl : DO X lo tl) (hh : DO X hi th) : DE X pa (.Subscript e (.Slice lo hi none p2) pos) (dSlice te tl th) := by
  refine pe_imp (pe_slice sl_ok he hl hh) fun σ H Q ⟨h, G, fp, Q', S, w, c⟩ => ?_
  refine ⟨h, G, fp, _, S, w, fun v H1 ⟨h1, G1, f1, va, fva, r1, w1⟩ => ?_⟩
  cases va with
  | pk i p =>
    refine ⟨h1, G1, f1, _, r1.st, w1, fun lo' H2 ⟨h2, f2, S2, e2, ⟨p2, k2⟩, w2⟩ => ?_⟩
    subst p2
    refine ⟨h2, G1, f2, _, S2, w2, fun hi' H3 ⟨h3, f3, S3, e3, ⟨p3, k3⟩, w3⟩ => ?_⟩
    subst p3
    cases r1.ov with
    | pk l e =>
      have l3 := (l.keep r1.st e k2).keep S2 e k3
      obtain ⟨x, ax, w4⟩ := OwnV.rd S3 (.pk l3 e) w3
      refine ⟨h3, x, _, S3.sub, ax, w4, fun v' H' o => c v' H' (o.res S3 ((r1.drop.trans e2).trans e3) (fun z => ?_) fun t q => q)⟩
      obtain ⟨q1, q2, q3⟩ := r1.pu z
      exact ⟨q1, q2, fun a m => (k3 a (q2 ▸ m)).trans ((k2 a (q2 ▸ m)).trans (q3 a m))⟩
  | t t =>
    obtain ⟨x, e, w1⟩ := rdT_of w1
    cases r1.ov with
    | t o =>
      have ax := o.rd e
      refine ⟨h1, G1, f1, _, r1.st, w1, fun lo' H2 ⟨h2, f2, S2, e2, ⟨p2, k2⟩, w2⟩ => ?_⟩
      subst p2
      refine ⟨h2, G1, f2, _, S2, w2, fun hi' H3 ⟨h3, f3, S3, e3, ⟨p3, k3⟩, w3⟩ => ?_⟩
      subst p3
      have g2 : Sub H1 H2 := e2.sub k2
      have g3 : Sub H2 H3 := e3.sub k3
      refine ⟨h3, x, _, S3.sub, (ax.keep e2.gh g2).keep e3.gh g3, w3, fun v' H' o => c v' H' (o.res S3 ((r1.drop.trans e2).trans e3) (fun z => ?_) fun t q => q)⟩
      obtain ⟨q1, q2, q3⟩ := r1.pu z
      exact ⟨q1, q2, fun a m => (k3 a (q2 ▸ m)).trans ((k2 a (q2 ▸ m)).trans (q3 a m))⟩
end
end DL

/-! Methods that change a node, stores into a node. -/
namespace DL
open PySem PySem.Spec L2

/-- a node changed: what stands behind it -/
structure NRes (K : PySem.W.Frag) (h H : Hp) (fc : List Addr) (h' H' : Hp) (t' : T) (v : V) (fc' : List Addr) (tr : T) (vr : V) (fr : List Addr) : Prop where
  own : Own K h' H' t' v fc'
  res : Own K h' H' tr vr fr
  nd : (fc' ++ fr).Nodup
  ex : Ext h H fc h' H' (fc' ++ fr)
  sub : Sub h' H'
theorem loc_change {K : PySem.W.Frag} {h H : Hp} {G : En} {σ : L2.St} {fp : List Addr} {i : Nat} {p : Option Stp} {t : T} {v : V} (S : Stt K h H G σ fp) (e : atE G i p = some t) (l : LocV H σ i p v) :
    ∃ fc, Own K h H t v fc ∧ fc.Nodup ∧ ∀ {h' H' : Hp} {t' tr : T} {fc' fr : List Addr} {vr : V}, NRes K h H fc h' H' t' v fc' tr vr fr →
      ∃ fp', Stt K h' H' (setE G i p t') σ fp' ∧ Own K h' H' tr vr fr ∧ (fp' ++ fr).Nodup ∧ Ext h H fp h' H' (fp' ++ fr) := by
  obtain ⟨f1, fc, f2, ef, oc, put⟩ := S.env.loc e l
  subst ef
  have nd0 : (f1 ++ f2 ++ fc).Nodup := (perm_mid f1 fc f2).nodup_iff.mp S.nd
  obtain ⟨nd12, ndc, dj⟩ := List.nodup_append.mp nd0
  refine ⟨fc, oc, ndc, fun {h' H' t' tr fc' fr vr} n => ?_⟩
  have out : ∀ a ∈ f1 ++ f2, a ∉ fc := fun a m m2 => dj a m a m2 rfl
  have thr : ∀ a ∈ f1 ++ f2, h a = none ∧ ∃ o, H a = some o := fun a m => S.env.there a (by simp at m ⊢; rcases m with m | m <;> simp [m])
  have hk : ∀ a ∈ f1 ++ f2, H' a = H a ∧ h' a = none := fun a m => by
    obtain ⟨n0, u, eu⟩ := thr a m
    have hn0 : h' a = none := by
     cases q : h' a with
     | none => rfl
     | some z =>
      rcases n.ex.hn a z q with r | r | r
      · rw [n0] at r; cases r
      · exact (out a m r).elim
      · exact (r.no eu (S.env.nobad a (by simp at m ⊢; rcases m with m | m <;> simp [m]))).elim
    exact ⟨by rw [eu]; exact n.ex.stay hn0 (out a m) eu, hn0⟩
  have o2 := put h' H' t' fc' n.ex.gh hk n.own
  have fresh : ∀ a ∈ f1 ++ f2, a ∉ fc' ++ fr := fun a m m2 => by
    rcases n.ex.nw a m2 with r | r
    · exact out a m r
    · obtain ⟨_, u, eu⟩ := thr a m; rw [eu] at r; cases r
  have big : ((f1 ++ f2) ++ (fc' ++ fr)).Nodup := List.nodup_append.mpr ⟨nd12, n.nd, fun x hx y hy z => fresh x hx (z ▸ hy)⟩
  have pm : (f1 ++ fc' ++ f2 ++ fr).Perm ((f1 ++ f2) ++ (fc' ++ fr)) := by
    refine (List.Perm.append_right fr (perm_mid f1 fc' f2)).trans ?_
    rw [List.append_assoc]
  refine ⟨f1 ++ fc' ++ f2, ⟨n.sub, o2, (List.nodup_append.mp (pm.nodup_iff.mpr big)).1⟩, n.res, pm.nodup_iff.mpr big, ⟨n.ex.gh, fun a o m ea => n.ex.fr a o (fun z => m (by simp [z])) ea, fun a m => ?_, fun a o ea => ?_⟩⟩
  · rcases List.mem_append.mp (pm.mem_iff.mp m) with q | q
    · left; simp at q ⊢; rcases q with q | q <;> simp [q]
    · rcases n.ex.nw a q with r | r
      · left; simp [r]
      · exact .inr r
  · rcases n.ex.hn a o ea with r | r | r
    · exact .inl r
    · right; left; simp [r]
    · exact .inr (.inr r)
abbrev NT := T → List D → (T → T → Prop) → Prop
def rOfM (K : PySem.W.Frag) (k : NT) : V → List V → Hp → VK → Prop := fun x xs H Q' => ∃ h t fc ds R, Sub h H ∧ Own K h H t x fc ∧ fc.Nodup ∧ Ats K h ds xs ∧ k t ds R ∧
  ∀ v H', (∃ h' t' fc' tr fr, NRes K h H fc h' H' t' x fc' tr v fr ∧ R t' tr) → Q' v H'
def MdK (X : Cx) (id : String) (k : NT) : Prop := MtM X id (rOfM X.K k)
def T.ty : T → String
  | .ls _ => "list"
  | .ll _ => "list"
  | .dk _ => "dict"
  | .dt _ => "dict"
  | .dm _ => "dict"
  | _ => ""
def dMeth (ty : String) (k : NT) (pa : Bool) (to : DTE) (ta : DTA) : DTE := fun G Q => to G fun G1 v => match v with
  | .pk i p => (∃ t, atE G1 i p = some t ∧ t.ty = ty) ∧ ta G1 fun G2 as => (p = none ∨ pa = true) ∧ withD as fun ds => (match atE G2 i p with | some t => k t ds fun t' r => Q (setE G2 i p t') (.t r) | none => False)
  | .t _ => False
theorem Own.tyv {K : PySem.W.Frag} {h H : Hp} {t : T} {v : V} {fp : List Addr} {ty : String} (o : Own K h H t v fp) (e : t.ty = ty) (hne : ty ≠ "") : tyV K ty v H := by
  subst e
  cases o with
  | fz _ => exact (hne rfl).elim
  | ls a b c => exact .inl ⟨rfl, _, SqL.of b⟩
  | dk a b c => exact .inr (.inr (.inl ⟨rfl, .inl ⟨_, b⟩⟩))
  | dt a b c => exact .inr (.inr (.inl ⟨rfl, .inr ⟨_, b⟩⟩))
  | ll a b c => exact .inl ⟨rfl, _, SqL.of b⟩
  | dm a b c => exact .inr (.inr (.inl ⟨rfl, .inl ⟨_, b⟩⟩))
  | ins _ _ _ _ _ => exact (hne rfl).elim
section
variable {X : Cx} {pa po : Bool} {o e : Expr} {es : List Expr} {to : DTE} {ta : DTA} {name : Str} {apos cpos : Pos} {T₀ id : String} {k : NT}
theorem meth_imp {K : PySem.W.Frag} {σ : L2.St} {H : Hp} {Q : VK} {ty : String} (hne : ty ≠ "") (w : sE K false (dMeth ty k pa to ta) σ H Q) : tBM K ty (rOfM K k) (sE K po to) (sA K pa ta) σ H Q := by
  obtain ⟨h, G, fp, Q', S, w, c⟩ := w
  refine ⟨h, G, fp, _, S, w, fun v H1 ⟨h1, G1, f1, va, fva, r1, w1⟩ => ?_⟩
  cases va with
  | t t => exact w1.elim
  | pk i p =>
    obtain ⟨⟨t0, e0, ty0⟩, w1⟩ := w1
    cases r1.ov with
    | pk l e =>
      obtain ⟨g1, gc, g2, _, oc, _⟩ := r1.st.env.loc e0 l
      refine ⟨oc.tyv ty0 hne, h1, G1, f1, _, r1.st, w1, fun vs H2 ⟨h2, G2, f2, as, S2, av, e2, p2, hp, w2⟩ => ?_⟩
      have l2 : LocV H2 σ i p v := by
        rcases hp with rfl | hp
        · exact l
        · obtain ⟨_, q2, q3⟩ := p2 hp
          exact l.keep r1.st e q3
      obtain ⟨ds, ed, w3⟩ := withD_of w2
      split at w3
      · rename_i t et
        obtain ⟨fc, oc2, ndc, chg⟩ := loc_change S2 et l2
        refine ⟨h2, t, fc, ds, _, S2.sub, oc2, ndc, avD_at av ed, w3, fun u H' ⟨h', t', fc', tr, fr, n, q⟩ => ?_⟩
        obtain ⟨fp', S3, ot, nd3, e3⟩ := chg n
        exact c u H' ⟨h', _, fp', .t tr, fr, ⟨S3, .t ot, nd3, (r1.drop.trans e2).trans e3, fun z => by cases z⟩, q⟩
      · exact w3.elim
theorem de_meth {ty : String} (hne : ty ≠ "") (pa : PlainAttrs ty) (slot : Slot ty name id) (hty : typeOf (.builtin id) = pure (.type "method_descriptor")) (hm : MdK X id k) (ho : DE X po o to) {pq : Bool} (ha : DA X pq (e :: es) ta)
    (hbase : attributeBase o name X.env (eval o X.env) = eval o X.env := by rfl)
    (hfew : ((backTo cpos (starEach (e :: es) X.env)).all (fun x => !x.1) && (backToKw cpos (keywordEach [] X.env)).all (fun x => x.1.isSome)
      && decide ((e :: es).length + ([] : List Keyword).length + (if ([] : List Keyword).isEmpty then 0 else 1) < 30)) = true := by rfl)
    (hline : (apos.endLine == cpos.line) = true := by rfl) (hs : starEach (e :: es) X.env = (false, eval e X.env) :: starEach es X.env := by rfl) (hplain : (backTo cpos (starEach es X.env)).any (·.1) = false := by rfl) :
    DE X false (.Call (.Attribute o name apos) (e :: es) [] cpos) (dMeth ty k pq to ta) :=
  pe_imp (pe_bm pa slot hty hm ho ha hbase hfew hline hs hplain) fun _ _ _ w => meth_imp hne w
def dMeth0 (ty : String) (k : NT) (to : DTE) : DTE := fun G Q => to G fun G1 v => match v with
  | .pk i p => (match atE G1 i p with | some t => t.ty = ty ∧ k t [] fun t' r => Q (setE G1 i p t') (.t r) | none => False)
  | .t _ => False
theorem de_meth0 {ty : String} (hne : ty ≠ "") (pa : PlainAttrs ty) (slot : Slot ty name id) (hty : typeOf (.builtin id) = pure (.type "method_descriptor")) (hm : MdK X id k) (ho : DE X po o to)
    (hbase : attributeBase o name X.env (eval o X.env) = eval o X.env := by rfl) (hline : (apos.endLine == cpos.line) = true := by rfl) : DE X false (.Call (.Attribute o name apos) [] [] cpos) (dMeth0 ty k to) :=
  pe_imp (pe_bm0 pa slot hty hm ho hbase hline) fun σ H Q ⟨h, G, fp, Q', S, w, c⟩ => by
    refine ⟨h, G, fp, _, S, w, fun v H1 ⟨h1, G1, f1, va, fva, r1, w1⟩ => ?_⟩
    cases va with
    | t t => exact w1.elim
    | pk i p =>
      cases r1.ov with
      | pk l e =>
        dsimp only at w1
        split at w1
        · rename_i t et
          obtain ⟨fc, oc2, ndc, chg⟩ := loc_change r1.st et l
          refine ⟨oc2.tyv w1.1 hne, h1, t, fc, [], _, r1.st.sub, oc2, ndc, .nil, w1.2, fun u H' ⟨h', t', fc', tr, fr, n, q⟩ => ?_⟩
          obtain ⟨fp', S3, ot, nd3, e3⟩ := chg n
          exact c u H' ⟨h', _, fp', .t tr, fr, ⟨S3, .t ot, nd3, r1.drop.trans e3, fun z => by cases z⟩, q⟩
        · exact w1.elim

/-! ### the methods of lists -/
def appendN : NT := fun t ds R => match t, ds with | .ls l, [x] => l.length < 10000000 ∧ R (.ls (l ++ [x])) (.fz .non) | _, _ => False
def extendN : NT := fun t ds R => match t, ds with | .ls l, [.lst xs] => l.length + xs.length ≤ 10000000 ∧ R (.ls (l ++ xs)) (.fz .non) | _, _ => False
def popN : NT := fun t ds R => match t, ds with | .ls l, [] => ∃ x, l.getLast? = some x ∧ R (.ls l.dropLast) (.fz x) | _, _ => False
def popAtN : NT := fun t ds R => match t, ds with | .ls l, [.int i] => ∃ (k : Nat) (x : D), i = k ∧ l[k]? = some x ∧ k < 2 ^ 62 ∧ R (.ls (l.eraseIdx k)) (.fz x) | _, _ => False
def reverseN : NT := fun t ds R => match t, ds with | .ls l, [] => R (.ls l.reverse) (.fz .non) | _, _ => False
/-- the list at a is written -/
theorem ls_write {K : PySem.W.Frag} {h H : Hp} {a : Addr} {l l' : List D} {vs vs' : List V} {d : D} {v : V} (sb : Sub h H) (n : h a = none) (b : H a = some (.lst vs)) (r : Ats K h l' vs') (rd : At K h d v) :
    NRes K h H [a] h (upd H a (.lst vs')) (.ls l') (.ref a) [a] (.fz d) v [] := by
  refine ⟨.ls n upd_same r, .fz rd, by simp, ⟨Same.refl h, fun c o m e => ?_, fun c m => .inl (by simpa using m), fun c o e => .inl e⟩, fun c o e => ?_⟩
  · rw [upd_ne (fun z => m (by simp [z]))]; exact .inl e
  · rw [upd_ne (fun z => by subst z; rw [n] at e; cases e)]; exact sb c o e
theorem Ats.eraseIdx {K : PySem.W.Frag} {h : Hp} : ∀ {l : List D} {l' : List V} (n : Nat), Ats K h l l' → Ats K h (l.eraseIdx n) (l'.eraseIdx n)
  | _, _, _, .nil => .nil
  | _, _, 0, .cons _ r => r
  | _, _, n + 1, .cons a r => .cons a (r.eraseIdx n)
theorem Ats.dropLast {K : PySem.W.Frag} {h : Hp} : ∀ {l : List D} {l' : List V}, Ats K h l l' → Ats K h l.dropLast l'.dropLast
  | _, _, .nil => .nil
  | _, _, .cons a .nil => .nil
  | _, _, .cons a (.cons b r) => .cons a (Ats.dropLast (.cons b r))
theorem Ats.reverse {K : PySem.W.Frag} {h : Hp} : ∀ {l : List D} {l' : List V}, Ats K h l l' → Ats K h l.reverse l'.reverse
  | _, _, .nil => .nil
  | _, _, .cons a r => by
    rw [List.reverse_cons, List.reverse_cons]
    exact (Ats.reverse r).app (.cons a .nil)
theorem md_of {X : Cx} {id : String} {r : V → List V → Hp → VK → Prop} {k : NT} (o : MtM X id r) (h : ∀ x xs H Q, rOfM X.K k x xs H Q → r x xs H Q) : MdK X id k := fun pins s σ H x xs v us Q I rx rs q => o pins s σ H x xs v us Q I rx rs (h _ _ _ _ q)
theorem append_ok : MdK X "list.append" appendN := md_of mt_append fun x xs H Q ⟨h, t, fc, ds, R, sb, ow, nd, a, w, c⟩ => by
  unfold appendN at w
  split at w
  · cases ow with
    | ls n b r =>
      cases a with
      | cons a ar =>
        cases ar
        exact ⟨_, _, _, rfl, rfl, b, by rw [← r.length]; exact Nat.lt_of_lt_of_le w.1 (by decide), c _ _ ⟨h, _, _, _, _, ls_write (l := []) sb n b (r.app (.cons a .nil)) .non, w.2⟩⟩
  · exact w.elim
theorem extend_ok : MdK X "list.extend" extendN := md_of mt_extend fun x xs H Q ⟨h, t, fc, ds, R, sb, ow, nd, a, w, c⟩ => by
  unfold extendN at w
  split at w
  · cases ow with
    | ls n b r =>
      cases a with
      | cons a ar =>
        cases ar
        cases a with
        | lst e r2 => exact ⟨_, _, _, _, rfl, rfl, b, sb.lst e, by rw [← r.length, ← r2.length]; exact sz100 w.1, c _ _ ⟨h, _, _, _, _, ls_write (l := []) sb n b (r.app r2) .non, w.2⟩⟩
  · exact w.elim
theorem pop_ok : MdK X "list.pop" popN := md_of mt_pop fun x xs H Q ⟨h, t, fc, ds, R, sb, ow, nd, a, w, c⟩ => by
  unfold popN at w
  split at w
  · cases ow with
    | ls n b r =>
      cases a
      obtain ⟨x, ex, w⟩ := w
      rw [List.getLast?_eq_getElem?] at ex
      obtain ⟨v, ev, av⟩ := r.get ex
      rw [r.length] at ev
      exact ⟨_, _, v, rfl, rfl, b, ev, c _ _ ⟨h, _, _, _, _, ls_write (l := []) sb n b r.dropLast av, w⟩⟩
  · exact w.elim
theorem popAt_ok : MdK X "list.pop" popAtN := md_of mt_popAt fun x xs H Q ⟨h, t, fc, ds, R, sb, ow, nd, a, w, c⟩ => by
  unfold popAtN at w
  split at w
  · cases ow with
    | @ls a0 l0 vs0 n b r =>
      cases a with
      | cons a ar =>
        cases ar
        obtain ⟨k, x, rfl, ex, hk, w⟩ := w
        cases a
        obtain ⟨v, ev, av⟩ := r.get ex
        have hl := (List.getElem?_eq_some_iff.mp ev).1
        have hx : ixN vs0.length (k : Int) = some k := by unfold ixN; rw [if_pos (by omega), if_pos (by omega)]; simp
        exact ⟨_, _, _, k, v, rfl, rfl, b, by omega, by omega, (ixN_seq hx).1, ev, c _ _ ⟨h, _, _, _, _, ls_write (l := []) sb n b (r.eraseIdx k) av, w⟩⟩
  · exact w.elim
theorem reverse_ok : MdK X "list.reverse" reverseN := md_of mt_reverse fun x xs H Q ⟨h, t, fc, ds, R, sb, ow, nd, a, w, c⟩ => by
  unfold reverseN at w
  split at w
  · cases ow with
    | ls n b r =>
      cases a
      exact ⟨_, _, rfl, rfl, b, c _ _ ⟨h, _, _, _, _, ls_write (l := []) sb n b r.reverse .non, w⟩⟩
  · exact w.elim
end
end DL

/-! Stores into lists and dicts, new dicts. -/
namespace DL
open PySem PySem.Spec L2

def putL {κ α : Type} [DecidableEq κ] : List (κ × α) → κ → α → List (κ × α)
  | [], k, v => [(k, v)]
  | (k', v') :: r, k, v => if k' = k then (k', v) :: r else (k', v') :: putL r k v
abbrev NS := T → D → D → (T → Prop) → Prop
def storeN : NS := fun t di dv R => match t with
  | .ls l => (match di with | .int i => (match ixN l.length i with | some j => R (.ls (l.set j dv)) | none => False) | _ => False)
  | .dk l => (match keyOf di with | some k => (l.map (·.1)).Nodup ∧ l.length < 10000000 ∧ R (.dk (putL l k dv)) | none => False)
  | .dt l => (match di with | .tup ds => (match keysOf ds with | some k => (l.map (·.1)).Nodup ∧ l.length < 10000000 ∧ R (.dt (putL l k dv)) | none => False) | _ => False)
  | .dm l => (match keyOf di with | some k => (match look l k with | some (.fz _) => (l.map (·.1)).Nodup ∧ l.length < 10000000 ∧ R (.dm (setL l k (.fz dv))) | _ => False) | none => False)
  | _ => False
def rOfS (K : PySem.W.Frag) (k : NS) : TSet := fun o i v H Q' => ∃ h t fc di dv R, Sub h H ∧ Own K h H t o fc ∧ fc.Nodup ∧ AtR K h H di i ∧ At K h dv v ∧ k t di dv R ∧
  ∀ H', (∃ h' t' fc', NRes K h H fc h' H' t' o fc' (.fz .non) .non [] ∧ R t') → Q' H'
theorem Ats.set {K : PySem.W.Frag} {h : Hp} {d : D} {v : V} (a : At K h d v) : ∀ {l : List D} {l' : List V} (i : Nat), Ats K h l l' → Ats K h (l.set i d) (l'.set i v)
  | _, _, _, .nil => .nil
  | _, _, 0, .cons _ r => .cons a r
  | _, _, i + 1, .cons b r => .cons b (Ats.set a i r)
theorem putK_neg {κ : Type} [DecidableEq κ] {k k' : κ} {v v' : V} {r : List (κ × V)} (h : ¬ k' = k) : putK ((k', v') :: r) k v = (k', v') :: putK r k v := by
  unfold putK
  simp only [List.any_cons, List.map_cons, h, decide_false, Bool.false_or]
  split <;> simp [h]
theorem putK_pos {κ : Type} [DecidableEq κ] {k : κ} {v v' : V} {r : List (κ × V)} (h : k ∉ r.map (·.1)) : putK ((k, v') :: r) k v = (k, v) :: r := by
  unfold putK
  simp only [List.any_cons, decide_true, Bool.true_or, if_true, List.map_cons]
  congr 1
  conv => rhs; rw [← List.map_id r]
  refine List.map_congr_left fun p m => ?_
  rw [if_neg (fun z => h (List.mem_map.mpr ⟨p, m, z⟩))]
  rfl
theorem AtK.keys {K : PySem.W.Frag} {h : Hp} : ∀ {l : List (Key × D)} {m : List (Key × V)}, AtK K h l m → m.map (·.1) = l.map (·.1)
  | _, _, .nil => rfl
  | _, _, .cons _ r => by simp [r.keys]
theorem AtT.keys {K : PySem.W.Frag} {h : Hp} : ∀ {l : List (List Key × D)} {m : List (List Key × V)}, AtT K h l m → m.map (·.1) = l.map (·.1)
  | _, _, .nil => rfl
  | _, _, .cons _ r => by simp [r.keys]
theorem AtK.put {K : PySem.W.Frag} {h : Hp} {k : Key} {d : D} {v : V} (a : At K h d v) : ∀ {l : List (Key × D)} {m : List (Key × V)}, AtK K h l m → (l.map (·.1)).Nodup → AtK K h (putL l k d) (putK m k v)
  | _, _, .nil, _ => .cons a .nil
  | _, _, .cons (k := k') b r, nd => by
    simp only [List.map_cons, List.nodup_cons] at nd
    by_cases e : k' = k
    · subst e
      rw [putK_pos (by rw [r.keys]; exact nd.1)]
      simp only [putL, if_pos]
      exact .cons a r
    · rw [putK_neg e]
      simp only [putL, if_neg e]
      exact .cons b (AtK.put a r nd.2)
theorem AtT.put {K : PySem.W.Frag} {h : Hp} {k : List Key} {d : D} {v : V} (a : At K h d v) : ∀ {l : List (List Key × D)} {m : List (List Key × V)}, AtT K h l m → (l.map (·.1)).Nodup → AtT K h (putL l k d) (putK m k v)
  | _, _, .nil, _ => .cons a .nil
  | _, _, .cons (k := k') b r, nd => by
    simp only [List.map_cons, List.nodup_cons] at nd
    by_cases e : k' = k
    · subst e
      rw [putK_pos (by rw [r.keys]; exact nd.1)]
      simp only [putL, if_pos]
      exact .cons a r
    · rw [putK_neg e]
      simp only [putL, if_neg e]
      exact .cons b (AtT.put a r nd.2)
theorem AtK.length {K : PySem.W.Frag} {h : Hp} {l : List (Key × D)} {m : List (Key × V)} (a : AtK K h l m) : l.length = m.length := by
  have := congrArg List.length a.keys; simpa using this.symm
theorem AtT.length {K : PySem.W.Frag} {h : Hp} {l : List (List Key × D)} {m : List (List Key × V)} (a : AtT K h l m) : l.length = m.length := by
  have := congrArg List.length a.keys; simpa using this.symm
/-- a node of one object is written -/
theorem one_write {K : PySem.W.Frag} {h H : Hp} {a : Addr} {o' : HO} {t' : T} (sb : Sub h H) (n : h a = none) (ow : Own K h (upd H a o') t' (.ref a) [a]) : NRes K h H [a] h (upd H a o') t' (.ref a) [a] (.fz .non) .non [] := by
  refine ⟨ow, .fz .non, by simp, ⟨Same.refl h, fun c o m e => ?_, fun c m => .inl (by simpa using m), fun c o e => .inl e⟩, fun c o e => ?_⟩
  · rw [upd_ne (fun z => m (by simp [z]))]; exact .inl e
  · rw [upd_ne (fun z => by subst z; rw [n] at e; cases e)]; exact sb c o e
theorem OwnK.keys {K : PySem.W.Frag} {h H : Hp} : ∀ {l : List (Key × T)} {m : List (Key × V)} {fp : List Addr}, OwnK K h H l m fp → m.map (·.1) = l.map (·.1)
  | _, _, _, .nil => rfl
  | _, _, _, .cons _ r => by simp [r.keys]
theorem OwnK.put {K : PySem.W.Frag} {h H : Hp} {k : Key} {d d0 : D} {v : V} (a : At K h d v) : ∀ {l : List (Key × T)} {m : List (Key × V)} {fp : List Addr}, OwnK K h H l m fp → look l k = some (.fz d0) → (l.map (·.1)).Nodup → OwnK K h H (setL l k (.fz d)) (putK m k v) fp
  | _, _, _, .nil, e, _ => by cases e
  | _, _, _, .cons (k := k') b r, e, nd => by
    simp only [List.map_cons, List.nodup_cons] at nd
    by_cases q : k' = k
    · subst q
      simp only [look, if_pos, Option.some.injEq] at e
      subst e
      cases b
      rw [putK_pos (by rw [r.keys]; exact nd.1)]
      simp only [setL, if_pos]
      exact .cons (.fz a) r
    · rw [putK_neg q]
      simp only [look, if_neg q] at e
      simp only [setL, if_neg q]
      exact .cons b (OwnK.put a r e nd.2)
/-- a node is written, its children stay -/
theorem node_write {K : PySem.W.Frag} {h H : Hp} {a : Addr} {fp : List Addr} {o' : HO} {t' : T} (sb : Sub h H) (n : h a = none) (nd : (a :: fp).Nodup) (ow : Own K h (upd H a o') t' (.ref a) (a :: fp)) : NRes K h H (a :: fp) h (upd H a o') t' (.ref a) (a :: fp) (.fz .non) .non [] := by
  refine ⟨ow, .fz .non, by simpa using nd, ⟨Same.refl h, fun c o m e => ?_, fun c m => .inl (by simpa using m), fun c o e => .inl e⟩, fun c o e => ?_⟩
  · rw [upd_ne (fun z => m (by simp [z]))]; exact .inl e
  · rw [upd_ne (fun z => by subst z; rw [n] at e; cases e)]; exact sb c o e
section
variable {X : Cx}
theorem set_dict (hu : X.A.units + 1 < cLine) : PSet X (fun o i v H Q => ∃ a H', o = .ref a ∧ DPut H a i v H' ∧ Q H') := fun pins s σ H o i v ov iv u Q I ro ri rv ⟨a, H', e, g, q⟩ => by
  subst e
  cases (show ov = Value.ref a from ro)
  exact d_setItem hu I g ri rv fun t J => ⟨H', J, q⟩
theorem pset_or {r r' : TSet} (h : PSet X r) (h' : PSet X r') : PSet X (fun o i v H Q => r o i v H Q ∨ r' o i v H Q) := fun pins s σ H o i v ov iv u Q I ro ri rv q => by
  rcases q with q | q
  · exact h pins s σ H o i v ov iv u Q I ro ri rv q
  · exact h' pins s σ H o i v ov iv u Q I ro ri rv q
theorem store_ok (hu : X.A.units + 1 < cLine) : PSet X (rOfS X.K storeN) := fun pins s σ H o i v ov iv u Q I ro ri rv ⟨h, t, fc, di, dv, R, sb, ow, nd, ai, av, w, c⟩ => by
  refine pset_or set_list (set_dict hu) pins s σ H o i v ov iv u Q I ro ri rv ?_
  unfold storeN at w
  split at w
  · rename_i l
    split at w
    · rename_i j
      split at w
      · rename_i k ek
        cases ow with
        | @ls a0 l0 vs0 n b r => exact .inl ⟨a0, vs0, j, k, rfl, ai.int, b, by rw [← r.length]; exact ek, c _ ⟨h, _, _, one_write sb n (.ls n upd_same (Ats.set av k r)), w⟩⟩
      · exact w.elim
    · exact w.elim
  · rename_i l
    split at w
    · rename_i k ek
      cases ow with
      | @dk a0 l0 m0 n b r =>
        have ei := keyOf_atR ek ai
        subst ei
        exact .inr ⟨a0, _, rfl, DPut.k b (by rw [← r.length]; exact Nat.lt_of_lt_of_le w.2.1 (by decide)), c _ ⟨h, _, _, one_write sb n (.dk n upd_same (r.put av w.1)), w.2.2⟩⟩
    · exact w.elim
  · rename_i l
    split at w
    · rename_i ds
      split at w
      · rename_i k ek
        cases ow with
        | @dt a0 l0 m0 n b r =>
          obtain ⟨q, ws, rfl, e2, al2⟩ := ai.tup sb
          rw [keysOf_at ek al2] at e2
          exact .inr ⟨a0, _, rfl, DPut.t b e2 (by rw [← r.length]; exact Nat.lt_of_lt_of_le w.2.1 (by decide)), c _ ⟨h, _, _, one_write sb n (.dt n upd_same (r.put av w.1)), w.2.2⟩⟩
      · exact w.elim
    · exact w.elim
  · rename_i l
    split at w
    · rename_i k ek
      split at w
      · rename_i d0 e0
        cases ow with
        | @dm a0 l0 m0 fp n b r =>
          have ei := keyOf_atR ek ai
          subst ei
          have hl : m0.length = l.length := by have := congrArg List.length r.keys; simpa using this
          have nda := (List.nodup_cons.mp nd).1
          refine .inr ⟨a0, _, rfl, DPut.k b (by rw [hl]; exact Nat.lt_of_lt_of_le w.2.1 (by decide)), c _ ⟨h, _, _, node_write sb n nd (.dm n upd_same ((r.put av e0 w.1).move (Same.refl h) (fun x m => ?_) fun x m => (r.there x m).1)), w.2.2⟩⟩
          exact upd_ne fun z => nda (z ▸ m)
      · exact w.elim
    · exact w.elim
  · exact w.elim
/-- place[index] = e -/
def dStore (pi : Bool) (te to ti : DTE) : DTS := fun Ds G => te G fun G1 v => fzW G1 v fun G2 d => to G2 fun G3 vo => match vo with
  | .pk i p => ti G3 fun G4 vi => (p = none ∨ pi = true) ∧ rdW G4 vi fun y => (match atE G4 i p with | some t => storeN t y d fun t' => Ds.nx (setE G4 i p t') | none => False)
  | .t _ => False
theorem ds_store {pa po pi : Bool} {m : Nat} {e o ix : Expr} {te to ti : DTE} {pos pos' : Pos} (hu : X.A.units + 1 < cLine) (he : DE X pa e te) (ho : DE X po o to) (hi : DE X pi ix ti)
    (ha : ∀ v, assign (.Subscript o ix pos') X.env v = (do
      let ov ← holding [v] (eval o X.env)
      let iv ← holding [v, ov] (eval ix X.env)
      standAt pos'
      holding [v, ov, iv] (setItem ov iv v)
      release [v, ov, iv] []) := by intro _; rfl)
    (hs : swapsWithSole [.Subscript o ix pos'] e pos.line X.env = pure false := by rfl) (hw : swappedStores [.Subscript o ix pos'] e X.env = pure none := by rfl)
    (h1 : (assignEach [.Subscript o ix pos'] X.env).map (·.2) = [assign (.Subscript o ix pos') X.env] := by rfl) :
    DS X m (.Assign [.Subscript o ix pos'] e pos) (dStore pi te to ti) := by
  refine ps_imp (ps_asg he (pg_sub ho hi (store_ok hu) ha) hs hw h1) fun D σ H ⟨h, G, fp, Ds, S, w, kn, kr⟩ => ?_
  refine ⟨h, G, fp, _, S, w, fun v H1 ⟨h1, G1, f1, va, fva, r1, w1⟩ => ?_⟩
  obtain ⟨h2, G2, f2, d, S2, a2, e2, w2⟩ := r1.fz w1
  refine ⟨h2, G2, f2, _, S2, w2, fun vo H3 ⟨h3, G3, f3, vlo, fvo, r3, w3⟩ => ?_⟩
  cases vlo with
  | t t => exact w3.elim
  | pk i p =>
    cases r3.ov with
    | pk l e =>
      refine ⟨h3, G3, f3, _, r3.st, w3, fun vi H4 ⟨h4, G4, f4, vli, fvi, r4, hp, w4⟩ => ?_⟩
      have l4 : LocV H4 σ i p vo := by
        rcases hp with rfl | hp
        · exact l
        · obtain ⟨_, q2, q3⟩ := r4.pu hp
          exact l.keep r3.st e q3
      obtain ⟨y, ay, w5⟩ := r4.ov.rd r4.st w4
      split at w5
      · rename_i t et
        obtain ⟨fc, oc, ndc, chg⟩ := loc_change r4.st et l4
        refine ⟨h4, t, fc, y, d, _, r4.st.sub, oc, ndc, ay, a2.mono (r3.ex.gh.trans r4.ex.gh), w5, fun H' ⟨h', t', fc', n, q⟩ => ?_⟩
        obtain ⟨fp', S5, _, nd5, e5⟩ := chg n
        simp only [List.append_nil] at nd5 e5
        exact kn σ H' ⟨h', _, fp', S5, ((e2.trans r3.drop).trans r4.drop).trans e5, rfl, q⟩
      · exact w5.elim
/-! new dicts -/
def dNewK : DTE := fun G Q => Q G (.t (.dk []))
def dNewT : DTE := fun G Q => Q G (.t (.dt []))
theorem new_one {K : PySem.W.Frag} {h H : Hp} {p : Addr} {o : HO} {t : T} {R : T → Prop} (s : Sub h H) (np : H p = none) (ow : h p = none → Own K h (upd H p o) t (.ref p) [p]) (q : R t) : OpPost K h H R (.ref p) (upd H p o) := by
  have hp : h p = none := by
    cases e : h p with
    | none => rfl
    | some o => obtain ⟨u, q⟩ := s.there e; rw [np] at q; cases q
  refine ⟨h, t, [p], ⟨Same.refl h, fun a u e => ?_, fun a u e => ?_, ow hp, by simp, by simpa using np, fun _ _ e => .inl e⟩, q⟩
  · rw [upd_ne (fun z => by subst z; rw [hp] at e; cases e)]; exact s a u e
  · rw [upd_ne (ne_of_none e np)]; exact e
theorem de_newK {pos : Pos} : DE X true (.Dict [] [] pos) dNewK := pe_imp pe_dnewK fun σ H Q ⟨h, G, fp, Q', S, w, c⟩ p np =>
  c _ _ (OpPost.res S (Ext.refl h H fp) (fun _ => ⟨rfl, rfl, fun _ _ => rfl⟩) (R := fun t => t = .dk []) (new_one S.sub np (fun hp => .dk hp upd_same .nil) rfl) fun t e => e ▸ w)
theorem de_newT {pos : Pos} : DE X true (.Dict [] [] pos) dNewT := pe_imp pe_dnewT fun σ H Q ⟨h, G, fp, Q', S, w, c⟩ p np =>
  c _ _ (OpPost.res S (Ext.refl h H fp) (fun _ => ⟨rfl, rfl, fun _ _ => rfl⟩) (R := fun t => t = .dt []) (new_one S.sub np (fun hp => .dt hp upd_same .nil) rfl) fun t e => e ▸ w)
end
end DL

/-! Calls of built-ins by name, chains, two names at once, list(range(..)). -/
namespace DL
open PySem PySem.Spec L2
section
variable {X : Cx} {pa pb pc : Bool} {a b c e : Expr} {es : List Expr} {ta tb tc te : DTE} {tA : DTA} {id x T₀ : String} {k : DN} {p pos : Pos}
theorem de_cb1 {x : Str} (C : CaK X (.builtin id) k) (hg : Gl X x) (hm : X.mg x = none) (hv : bootBuiltins x = some (.builtin id)) (he : DE X pa e te) (hn : x ≠ "__name__" := by decide) (hdb : (x == ("__debug__" : Str)) = false := by decide)
    (hs : starEach [e] X.env = (false, eval e X.env) :: starEach [] X.env := by rfl) (hpl : (backTo pos (starEach [] X.env)).any (·.1) = false := by rfl) : DE X pa (.Call (.Name x p) [e] [] pos) (dCB1 (fun y R => k [y] R) te) :=
  pe_imp (pe_callB C hg hm hv (pa_cons he pa_nil hs) hn hdb hs hpl) fun _ _ _ w => cb1_imp (fun _ _ q => q) w
theorem de_ct1 {x : Str} (C : CaK X (.type T₀) k) (hg : Gl X x) (hm : X.mg x = none) (hv : bootBuiltins x = some (.type T₀)) (he : DE X pa e te) (hn : x ≠ "__name__" := by decide) (hdb : (x == ("__debug__" : Str)) = false := by decide)
    (hs : starEach [e] X.env = (false, eval e X.env) :: starEach [] X.env := by rfl) (hpl : (backTo pos (starEach [] X.env)).any (·.1) = false := by rfl) : DE X pa (.Call (.Name x p) [e] [] pos) (dCB1 (fun y R => k [y] R) te) :=
  pe_imp (pe_callTy C hg hm hv (pa_cons he pa_nil hs) hn hdb hs hpl) fun _ _ _ w => cb1_imp (fun _ _ q => q) w
theorem de_cbN {x : Str} (C : CaK X (.builtin id) k) (hg : Gl X x) (hm : X.mg x = none) (hv : bootBuiltins x = some (.builtin id)) (ha : DA X pa (e :: es) tA) (hn : x ≠ "__name__" := by decide) (hdb : (x == ("__debug__" : Str)) = false := by decide)
    (hs : starEach (e :: es) X.env = (false, eval e X.env) :: starEach es X.env := by rfl) (hpl : (backTo pos (starEach es X.env)).any (·.1) = false := by rfl) : DE X pa (.Call (.Name x p) (e :: es) [] pos) (dCB k tA) :=
  pe_imp (pe_callB C hg hm hv ha hn hdb hs hpl) fun _ _ _ w => cb_imp w
theorem de_cb1c {x : Str} {e2 : Expr} {v2 : V} {d2 : D} (C : CaK X (.builtin id) k) (hg : Gl X x) (hm : X.mg x = none) (hv : bootBuiltins x = some (.builtin id)) (he : DE X pa e te) (h2 : PE X e2 (tC v2)) (r2 : ∀ h, At X.K h d2 v2) (hn : x ≠ "__name__" := by decide) (hdb : (x == ("__debug__" : Str)) = false := by decide)
    (hs2 : starEach [e2] X.env = (false, eval e2 X.env) :: starEach [] X.env := by rfl)
    (hs : starEach [e, e2] X.env = (false, eval e X.env) :: starEach [e2] X.env := by rfl) (hpl : (backTo pos (starEach [e2] X.env)).any (·.1) = false := by rfl) : DE X pa (.Call (.Name x p) [e, e2] [] pos) (dCB1 (fun y R => k [y, d2] R) te) :=
  pe_imp (pe_callB C hg hm hv (pa_cons he (pa_cons h2 pa_nil hs2) hs) hn hdb hs hpl) fun _ _ _ w => by
    obtain ⟨h, G, fp, Q', S, w, c⟩ := w
    refine ⟨h, G, fp, _, S, w, fun v H1 ⟨h1, G1, f1, va, fva, r1, w1⟩ => ?_⟩
    obtain ⟨x, ax, w2⟩ := r1.ov.rd r1.st w1
    exact ⟨h1, [x, d2], _, r1.st.sub, .cons ax (.cons (.of (r2 _)) .nil), w2, fun v' H' o => c v' H' (o.res r1.st r1.drop r1.pu fun t q => q)⟩
theorem isN_ok : OpK X (compareOp .Is) (isNoneD false) := by
  refine opk_of op_isN fun x y H Q ⟨h, dx, dy, R, sb, ax, ay, w, c⟩ => ?_
  unfold isNoneD at w
  split at w
  · refine ⟨ay.non, c _ H (.plain sb .bl ?_)⟩
    cases ax with
    | of ax => cases ax <;> simp_all
    | ls _ _ => simpa using w
    | dk _ _ => simpa using w
    | dt _ _ => simpa using w
  · exact w.elim
theorem notN_ok : OpK X (compareOp .IsNot) (isNoneD true) := by
  refine opk_of op_notN fun x y H Q ⟨h, dx, dy, R, sb, ax, ay, w, c⟩ => ?_
  unfold isNoneD at w
  split at w
  · refine ⟨ay.non, c _ H (.plain sb .bl ?_)⟩
    cases ax with
    | of ax => cases ax <;> simp_all
    | ls _ _ => simpa using w
    | dk _ _ => simpa using w
    | dt _ _ => simpa using w
  · exact w.elim
/-- a < b < c, on ints -/
def isI (d : D) (k : Int → Prop) : Prop := match d with | .int i => k i | _ => False
theorem isI_of {d : D} {k : Int → Prop} (w : isI d k) : ∃ i, d = .int i ∧ k i := by
  cases d <;> first | exact w.elim | exact ⟨_, rfl, w⟩
def dChain (f g : Int → Int → Bool) (ta tb tc : DTE) : DTE := fun G Q => ta G fun G1 va => rdW G1 va fun x => tb G1 fun G2 vb => rdW G2 vb fun y => isI x fun i => isI y fun j =>
  if f i j = true then tc G2 fun G3 vc => rdW G3 vc fun z => isI z fun l => Q G3 (.t (.fz (.bl (g j l)))) else Q G2 (.t (.fz (.bl false)))
theorem chain_imp {K : PySem.W.Frag} {σ : L2.St} {H : Hp} {Q : VK} {f g : Int → Int → Bool} (w : sE K (pa && (pb && pc)) (dChain f g ta tb tc) σ H Q) :
    tChain (rI0 fun i j => .bl (f i j)) (rI0 fun i j => .bl (g i j)) (sE K pa ta) (sE K pb tb) (sE K pc tc) σ H Q := by
  obtain ⟨h, G, fp, Q', S, w0, c⟩ := w
  refine ⟨h, G, fp, _, S, w0, fun v H1 p1 => ?_⟩
  obtain ⟨h1, G1, f1, va, fva, r1, w1⟩ := p1
  obtain ⟨dx, ax, w2⟩ := r1.ov.rd r1.st w1
  refine ⟨h1, G1, f1, _, r1.st, w2, fun u H2 p2 => ?_⟩
  obtain ⟨h2, G2, f2, vb, fvb, r2, w3⟩ := p2
  obtain ⟨dy, ay, w4⟩ := r2.ov.rd r2.st w3
  have e2 := r1.drop.trans r2.drop
  obtain ⟨i, ei, w5⟩ := isI_of w4
  obtain ⟨j, ej, w6⟩ := isI_of w5
  rw [ei] at ax
  rw [ej] at ay
  refine ⟨i, j, ax.int, ay.int, f i j, rfl, ?_⟩
  by_cases hf : f i j = true
  · rw [if_pos hf] at w6 ⊢
    refine ⟨h2, G2, f2, _, r2.st, w6, fun z H3 p3 => ?_⟩
    obtain ⟨h3, G3, f3, vc, fvc, r3, w7⟩ := p3
    obtain ⟨dz, az, w8⟩ := r3.ov.rd r3.st w7
    obtain ⟨l, el, w9⟩ := isI_of w8
    rw [el] at az
    refine ⟨j, l, ay.int, az.int, c _ H3 ⟨h3, G3, f3, _, [], res_bl r3.st (e2.trans r3.drop) (fun z => ?_), w9⟩⟩
    simp only [Bool.and_eq_true] at z
    obtain ⟨q1, q2, q3⟩ := r1.pu z.1
    obtain ⟨s1, s2, s3⟩ := r2.pu z.2.1
    obtain ⟨u1, u2, u3⟩ := r3.pu z.2.2
    exact ⟨u1.trans (s1.trans q1), u2.trans (s2.trans q2), fun a m => (u3 a (s2 ▸ q2 ▸ m)).trans ((s3 a (q2 ▸ m)).trans (q3 a m))⟩
  · rw [if_neg hf] at w6 ⊢
    refine c _ H2 ⟨h2, G2, f2, _, [], res_bl r2.st e2 (fun z => ?_), w6⟩
    simp only [Bool.and_eq_true] at z
    obtain ⟨q1, q2, q3⟩ := r1.pu z.1
    obtain ⟨s1, s2, s3⟩ := r2.pu z.2.1
    exact ⟨s1.trans q1, s2.trans q2, fun a m => (s3 a (q2 ▸ m)).trans (q3 a m)⟩
theorem de_chain {op op' : CmpOp} {f g : Int → Int → Bool} (ho : OpR X (compareOp op) (rI0 fun i j => .bl (f i j))) (ho' : OpR X (compareOp op') (rI0 fun i j => .bl (g i j))) (ha : DE X pa a ta) (hb : DE X pb b tb) (hc : DE X pc c tc)
    (hm : lastMarks [op, op'] [b, c] = false := by with_unfolding_all rfl) : DE X (pa && (pb && pc)) (.Compare a [op, op'] [b, c] pos) (dChain f g ta tb tc) :=
  pe_imp (pe_chain ho ho' ha hb hc hm) fun _ _ _ w => chain_imp w
theorem dt_chain {op op' : CmpOp} {f g : Int → Int → Bool} (ho : OpR X (compareOp op) (rI0 fun i j => .bl (f i j))) (ho' : OpR X (compareOp op') (rI0 fun i j => .bl (g i j))) (ha : DE X pa a ta) (hb : DE X pb b tb) (hc : DE X pc c tc)
    (hm : lastMarks [op, op'] [b, c] = false := by with_unfolding_all rfl) : DT X (pa && (pb && pc)) (.Compare a [op, op'] [b, c] pos) (dVal (dChain f g ta tb tc)) :=
  pt_imp (pt_chain ho ho' ha hb hc hm) fun σ H Q w => by
    obtain ⟨h, G, fp, Q', S, w, c⟩ := val_imp w
    exact chain_imp ⟨h, G, fp, Q', S, w, c⟩
/-- x, y = a, b -/
def dPar (i j : Nat) (tA : DTA) : DTS := fun Ds G => tA G fun G1 as => match as with
  | [.d d1, .d d2] => i < G1.length ∧ j < G1.length ∧ Ds.nx ((G1.set i (some (.fz d1))).set j (some (.fz d2)))
  | _ => False
theorem ds_par {m i j : Nat} {x y : Str} {px py pt : Pos} {kt k2 pt2} (hc : X.calm = true) (hN : X.N.Nodup) (hi : X.N[i]? = some x) (hj : X.N[j]? = some y) (hij : i ≠ j)
    (hx : X.env.scope.names.lookup x = some .local) (hy : X.env.scope.names.lookup y = some .local) (mi : m ≤ i) (mj : m ≤ j) (ha : DA X pa [a, b] tA)
    (hw : swappedStores [.Tuple [.Name x px, .Name y py] kt pt] (.Tuple [a, b] k2 pt2) X.env = pure (some [x, y]) := by rfl)
    (hs : swapsWithSole [.Tuple [.Name x px, .Name y py] kt pt] (.Tuple [a, b] k2 pt2) pos.line X.env = pure false := by rfl) :
    DS X m (.Assign [.Tuple [.Name x px, .Name y py] kt pt] (.Tuple [a, b] k2 pt2) pos) (dPar i j tA) :=
  ps_imp (ps_par hc hN hi hj hij hx hy ha hw hs) fun D σ H ⟨h, G, fp, Ds, S, w, kn, kr⟩ => by
    refine ⟨h, G, fp, _, S, w, fun vs H1 ⟨h1, G1, f1, as, S1, av, e1, p1, w1⟩ => ?_⟩
    dsimp only at w1
    split at w1
    · cases av with
      | d a1 av => cases av with
        | d a2 av =>
          cases av
          obtain ⟨l1, l2, w1⟩ := w1
          obtain ⟨g1, T1, s1⟩ := S1.store l1 (.fz a1) (by simpa using S1.nd)
          obtain ⟨g2, T2, s2⟩ := T1.store (i := j) (by simpa using l2) (.fz a2) (by simpa using T1.nd)
          refine ⟨_, _, rfl, kn _ H1 ⟨h1, _, g2, T2, e1.weak fun z mz => ?_, (take_set mj).trans (take_set mi), w1⟩⟩
          simpa using s1 z (by simpa using s2 z mz)
    · exact w1.elim
/-- list(range(..)), tuple(range(..)) -/
def dListR1 (te : DTE) : DTE := fun G Q => te G fun G1 v => rdW G1 v fun d => isI d fun n => RgOk 0 n ∧ Q G1 (.t (.ls (upto 0 n.toNat)))
theorem upto_ats {K : PySem.W.Frag} {h : Hp} (lo : Int) (n : Nat) : Ats K h (upto lo n) ((List.range n).map fun i => V.int (lo + (i : Nat))) := by
  unfold upto
  induction List.range n with
  | nil => exact .nil
  | cons i r ih => exact .cons .int ih
theorem de_listR1 {p2 pos2 : Pos} (hc : X.calm = true) (hg : Gl X "list") (hm : X.mg "list" = none) (hgr : Gl X "range") (hmr : X.mg "range" = none) (ha : DE X pa a ta)
    (na : starEach [a] X.env = (false, eval a X.env) :: starEach [] X.env := by rfl) (nb : starEach [.Call (.Name "range" p2) [a] [] pos2] X.env = (false, eval (.Call (.Name "range" p2) [a] [] pos2) X.env) :: starEach [] X.env := by rfl) :
    DE X pa (.Call (.Name "list" p) [.Call (.Name "range" p2) [a] [] pos2] [] pos) (dListR1 ta) :=
  pe_imp (pe_listRg hc hg hm (prg_1 hgr hmr ha na) nb) fun σ H Q ⟨h, G, fp, Q', S, w, c⟩ => by
    refine ⟨h, G, fp, _, S, w, fun v H1 p1 => ?_⟩
    obtain ⟨h1, G1, f1, va, fva, r1, w1⟩ := p1
    obtain ⟨x, ax, w2⟩ := r1.ov.rd r1.st w1
    obtain ⟨n, en, w3⟩ := isI_of w2
    rw [en] at ax
    refine ⟨n, ax.int, w3.1, fun q nq => c _ _ ?_⟩
    have := OpPost.list (K := X.K) (R := fun t => t = .ls (upto 0 n.toNat)) r1.st.sub nq (upto_ats 0 n.toNat) rfl
    unfold rgV
    rw [Int.sub_zero]
    exact OpPost.res r1.st r1.drop r1.pu this fun t e => e ▸ w3.2
theorem hu65 {A : Around} {k : Nat} (hr : Room k A) : A.units + 65 < cLine := by have := hr.un; omega
theorem hu2 {A : Around} {k : Nat} (hr : Room k A) : A.units + 2 < cLine := by have := hr.un; omega
theorem hu1 {A : Around} {k : Nat} (hr : Room k A) : A.units + 1 < cLine := by have := hr.un; omega
theorem lt_big {j : Int} (h : j < 2 ^ 62) : j < 2 ^ 5000 := by
  have h2 : (2 : Int) ^ 62 ≤ 2 ^ 5000 := by
    rw [show (5000 : Nat) = 62 + 4938 from rfl, Int.pow_add]
    have : (1 : Int) ≤ 2 ^ 4938 := by
      have := Int.pow_pos (n := 2) (m := 4938) (by decide); omega
    have q : (2 : Int) ^ 62 * 1 ≤ 2 ^ 62 * 2 ^ 4938 := Int.mul_le_mul_of_nonneg_left this (by decide)
    omega
  omega
end
end DL

/-! Lists of new dicts, lists of new lists; a child of a tree. -/
namespace DL
open PySem PySem.Spec L2

/-- range(n)'s bound, then so many new things -/
def dNews (t0 : T) (ta : DTA) : DTE := fun G Q => ta G fun G1 as => withD as fun ds => match ds with | [.int j] => -(2 ^ 62) ≤ j ∧ j ≤ 1000 ∧ Q G1 (.t (.ll (List.replicate j.toNat t0))) | _ => False
theorem Owns.snoc {K : PySem.W.Frag} {h H : Hp} {t : T} {v : V} {fc : List Addr} : ∀ {ts : List T} {vs : List V} {fp : List Addr}, Owns K h H ts vs fp → Own K h H t v fc → Owns K h H (ts ++ [t]) (vs ++ [v]) (fp ++ fc)
  | _, _, _, .nil, o => by simpa using Owns.cons o .nil
  | _, _, _, .cons (f1 := f1) a r, o => by rw [List.append_assoc]; exact .cons a (r.snoc o)
section
variable {X : Cx} {pa : Bool} {ta : DTA} {m : Nat}
/-- a new thing, whatever the heap: its tree -/
structure NewT (K : PySem.W.Frag) (te : TE) (t0 : T) : Prop where
  at_ : ∀ (σ : L2.St) (h H : Hp) (Q : VK), Sub h H → (∀ p o, H p = none → h p = none → Own K h (upd H p o) t0 (.ref p) [p] → Q (.ref p) (upd H p o)) → te σ H Q
theorem news_imp {σ : L2.St} {H : Hp} {Q : VK} {i : Nat} {te : TE} {t0 : T} (nt : NewT X.K te t0) (w : sE X.K pa (dNews t0 ta) σ H Q) : tLc (iRng1 (sA X.K pa ta)) (gName i) tYes te [i] σ H Q := by
  obtain ⟨h, G, fp, Q', S, w, c⟩ := w
  refine ⟨h, G, fp, _, S, w, fun vs H1 p1 => ?_⟩
  obtain ⟨h1, G1, f1, as, S1, av, e1, p1, w1⟩ := p1
  obtain ⟨ds, ed, w2⟩ := withD_of w1
  have ad := avD_at av ed
  split at w2
  · rename_i j
    obtain ⟨b1, b2, w3⟩ := w2
    cases ad with
    | cons a r =>
      cases r
      cases a
      refine ⟨j, rfl, b1, by omega, fun D nD => ?_⟩
      have hD : h1 D = none := by
        cases q : h1 D with
        | none => rfl
        | some o => obtain ⟨u, e⟩ := S1.sub.there q; rw [nD] at e; cases e
      refine L2.lc_range (lo := 0) (n := j.toNat) (fun k H2 => ∃ (va : List V) (fa : List Addr), H2 D = some (.lst va) ∧ Owns X.K h1 H2 (List.replicate k t0) va fa ∧ fa.Nodup ∧ D ∉ fa ∧ (∀ a ∈ fa, H1 a = none) ∧ ∀ a o, H1 a = some o → H2 a = some o) ?_ (fun k H2 hk p => ?_) fun H2 p => ?_
      · exact ⟨[], [], upd_same, .nil, .nil, by simp, by simp, fun a o e => (upd_ne (ne_of_none e nD)).trans e⟩
      · obtain ⟨va, fa, eD, ow, nd, nDf, fr, old⟩ := p
        refine ⟨(wipe_set (vs := [i]) _ (by simp)).trans (wipe_wipe σ [i]), ?_⟩
        unfold tYes
        dsimp only
        rw [if_pos rfl]
        have sb : Sub h1 H2 := fun a o e => by
          rcases S1.sub a o e with q | ⟨d, ob, q⟩
          · exact .inl (old a o q)
          · exact .inr ⟨d, ob, old a _ q⟩
        refine nt.at_ _ h1 H2 _ sb fun p o np hp own => ?_
        have pD : D ≠ p := fun z => by subst z; rw [eD] at np; cases np
        have pf : p ∉ fa := fun z => by obtain ⟨_, u, e⟩ := ow.there p z; rw [np] at e; cases e
        have lva : va.length = k := by rw [← ow.length]; simp
        refine ⟨va, by rw [upd_ne pD]; exact eD, by rw [lva]; exact Nat.lt_of_lt_of_le (show k < 10000000 by omega) (by decide), va ++ [.ref p], fa ++ [p], upd_same, ?_, ?_, ?_, ?_, ?_⟩
        · rw [List.replicate_succ']
          have k1 : ∀ a ∈ fa, (upd (upd H2 p o) D (.lst (va ++ [.ref p]))) a = H2 a := fun a m => by
            rw [upd_ne (fun z => by subst z; exact nDf m), upd_ne (fun z => by subst z; exact pf m)]
          have k2 : ∀ a ∈ [p], (upd (upd H2 p o) D (.lst (va ++ [.ref p]))) a = upd H2 p o a := fun a m => by
            rw [upd_ne (fun z => by simp at m; subst m; exact pD z.symm)]
          exact (ow.move (Same.refl h1) k1 fun a m => (ow.there a m).1).snoc (own.move (Same.refl h1) k2 fun a m => (own.there a m).1)
        · exact List.nodup_append.mpr ⟨nd, by simp, fun x hx y hy e => by simp at hy; subst hy; subst e; exact pf hx⟩
        · simp only [List.mem_append, List.mem_singleton, not_or]; exact ⟨nDf, pD⟩
        · intro a m
          rcases List.mem_append.mp m with m | m
          · exact fr a m
          · simp at m; subst m
            cases q : H1 a with
            | none => rfl
            | some u => rw [old a u q] at np; cases np
        · intro a u e
          have n1 : a ≠ D := fun z => by subst z; rw [nD] at e; cases e
          have n2 : a ≠ p := fun z => by subst z; rw [old a u e] at np; cases np
          rw [upd_ne n1, upd_ne n2]; exact old a u e
      · obtain ⟨va, fa, eD, ow, nd, nDf, fr, old⟩ := p
        have o : OpRes X.K h1 H1 h1 H2 (.ll (List.replicate j.toNat t0)) (.ref D) (D :: fa) := by
          refine ⟨Same.refl h1, fun a o e => ?_, old, .ll hD eD ow, List.nodup_cons.mpr ⟨nDf, nd⟩, fun a m => ?_, fun _ _ e => .inl e⟩
          · rcases S1.sub a o e with q | ⟨d, ob, q⟩
            · exact .inl (old a o q)
            · exact .inr ⟨d, ob, old a _ q⟩
          · rcases List.mem_cons.mp m with rfl | m
            · exact nD
            · exact fr a m
        exact c _ H2 ⟨h1, G1, f1, .t _, _, o.res S1 e1 p1, w3⟩
  · exact w2.elim
theorem newK {K : PySem.W.Frag} : NewT K tDNewK (.dk []) := ⟨fun σ h H Q sb q p np => by
  have hp : h p = none := by
    cases e : h p with
    | none => rfl
    | some o => obtain ⟨u, z⟩ := sb.there e; rw [np] at z; cases z
  exact q p _ np hp (.dk hp upd_same .nil)⟩
/-- [{} for x in range(n)] -/
theorem de_dicts {scope : Scope} {x : Str} {px p pr pos pd : Pos} {i : Nat} {a : Expr} (hc : X.calm = true) (hN : X.N.Nodup) (hg : Gl X "range") (hm : X.mg "range" = none) (ha : DA X pa [a] ta) (ok : BlkOk X.N X.env.scope scope [(x, i)])
    (hx : ∀ (s : Shared) (H : Hp) (C : Addr) (cl : List (Str × Addr)) (fp : List Addr), PG (X.blk s H scope (compEnvC scope cl C X.env) fp) (.Name x px) (gName i))
    (hs : starEach [a] X.env = [(false, eval a X.env)] := by rfl) (hf : ∀ y, foldedSetIterable (.Call (.Name "range" p) [a] [] pr) X.env y = pure y := by intro _; rfl) :
    DE X pa (.ListComp (.Dict [] [] pd) [⟨.Name x px, .Call (.Name "range" p) [a] [] pr, [], 0⟩] scope pos) (dNews (.dk []) ta) :=
  pe_imp (pe_lc (own := [(x, i)]) (g := gName i) (tt := tYes) (te := tDNewK) hc hN (pi_range1 hg hm ha hs) ok hx (fun _ _ _ _ _ => pts_nil) (fun _ _ _ _ _ => pe_dnewK) hf) fun _ _ _ w => news_imp newK w
theorem ds_setDicts {scope : Scope} {x y : Str} {px py p pr pos pd spos : Pos} {i j : Nat} {a : Expr} (hc : X.calm = true) (hN : X.N.Nodup) (hy : X.N[j]? = some y) (hyl : X.env.scope.names.lookup y = some .local)
    (hsw : swapsWith (.ListComp (.Dict [] [] pd) [⟨.Name x px, .Call (.Name "range" p) [a] [] pr, [], 0⟩] scope pos) (some (.Name y py)) spos.line X.env = pure true) (mj : m ≤ j)
    (hg : Gl X "range") (hm : X.mg "range" = none) (ha : DA X pa [a] ta) (ok : BlkOk X.N X.env.scope scope [(x, i)])
    (hx : ∀ (s : Shared) (H : Hp) (C : Addr) (cl : List (Str × Addr)) (fp : List Addr), PG (X.blk s H scope (compEnvC scope cl C X.env) fp) (.Name x px) (gName i))
    (hs : starEach [a] X.env = [(false, eval a X.env)] := by rfl) (hf : ∀ y, foldedSetIterable (.Call (.Name "range" p) [a] [] pr) X.env y = pure y := by intro _; rfl) :
    DS X m (.Assign [.Name y py] (.ListComp (.Dict [] [] pd) [⟨.Name x px, .Call (.Name "range" p) [a] [] pr, [], 0⟩] scope pos) spos) (dSet j (dNews (.dk []) ta)) :=
  ps_imp (ps_setLc (own := [(x, i)]) (g := gName i) (tt := tYes) (te := tDNewK) hc hN hy hyl hsw (pi_range1 hg hm ha hs) ok hx (fun _ _ _ _ _ => pts_nil) (fun _ _ _ _ _ => pe_dnewK) hf) fun D σ H w => by
    have q := set_imp (pa := pa) mj w
    have q2 : sE X.K pa (dNews (.dk []) ta) σ H (fun x H1 => gName j x σ H1 D.nx) := q
    exact news_imp newK q2
/-! a child -/
def dKid (ta tb : DTE) : DTE := fun G Q => ta G fun G1 va => match va with
  | .pk i none => tb G1 fun G2 vb => rdW G2 vb fun y => isI y fun j => (match G2[i]? with
    | some (some (.ll ts)) => (match ixN ts.length j with
      | some k => (match ts[k]? with
        | some (.fz d) => Q G2 (.t (.fz d))
        | some _ => Q G2 (.pk i (some (.ix k)))
        | none => False)
      | none => False)
    | _ => False)
  | _ => False
theorem Owns.get {K : PySem.W.Frag} {h H : Hp} : ∀ {ts : List T} {vs : List V} {fp : List Addr} {k : Nat} {t : T}, Owns K h H ts vs fp → ts[k]? = some t → ∃ v, vs[k]? = some v
  | _, _, _, _, _, .nil, e => by simp at e
  | _, _, _, 0, _, .cons (v := v) _ _, e => ⟨v, rfl⟩
  | _, _, _, k + 1, _, .cons _ r, e => by simpa using r.get (by simpa using e)
theorem de_kid {pb : Bool} {a b : Expr} {tA tB : DTE} {pos : Pos} (ha : DE X pa a tA) (hb : DE X pb b tB) (hs : PlainIx b) : DE X (pa && pb) (.Subscript a b pos) (dKid tA tB) := by
  refine pe_imp (pe_ix ix_list ha hb hs) fun σ H Q ⟨h, G, fp, Q', S, w, c⟩ => ?_
  refine ⟨h, G, fp, _, S, w, fun v H1 p1 => ?_⟩
  obtain ⟨h1, G1, f1, va, fva, r1, w1⟩ := p1
  cases va with
  | t t => exact w1.elim
  | pk i p =>
    cases p with
    | some s => exact w1.elim
    | none =>
      cases r1.ov with
      | pk l e =>
        obtain ⟨v0, ev, hv⟩ := l
        subst hv
        refine ⟨h1, G1, f1, _, r1.st, w1, fun u H2 p2 => ?_⟩
        obtain ⟨h2, G2, f2, vb, fvb, r2, w2⟩ := p2
        obtain ⟨y, ay, w3⟩ := r2.ov.rd r2.st w2
        obtain ⟨j, ej, w4⟩ := isI_of w3
        rw [ej] at ay
        have pur : (pa && pb) = true → G2 = G ∧ f2 = fp ∧ ∀ a ∈ fp, H2 a = H a := fun z => by
          rw [Bool.and_eq_true] at z
          obtain ⟨q1, q2, q3⟩ := r1.pu z.1
          obtain ⟨s1, s2, s3⟩ := r2.pu z.2
          exact ⟨s1.trans q1, s2.trans q2, fun a m => (s3 a (q2 ▸ m)).trans (q3 a m)⟩
        split at w4
        · rename_i ts eg
          obtain ⟨g1, gc, g2, ef, oc, _⟩ := r2.st.env.slot eg ev
          cases oc with
          | @ll a0 _ vs fa n b ow =>
            split at w4
            · rename_i k ek
              have hk : ∀ t, ts[k]? = some t → ∃ x, vs[k]? = some x ∧ atI vs j = some x := fun t et => by
                obtain ⟨x, ex⟩ := ow.get et
                refine ⟨x, ex, ?_⟩
                unfold atI
                rw [← ow.length, ek]
                exact ex
              split at w4
              · rename_i d ed
                obtain ⟨x, ex, ax⟩ := hk _ ed
                obtain ⟨q1, qc, q2, _, oz, _⟩ := ow.at ed ex
                cases oz with
                | fz ad => exact ⟨a0, vs, j, x, rfl, ay.int, SqL.of b, ax, c x H2 ⟨h2, G2, f2, _, [], ⟨r2.st, .t (.fz ad), by simpa using r2.st.nd, by simpa using r1.drop.trans r2.drop, pur⟩, w4⟩⟩
              · rename_i t hne et
                obtain ⟨x, ex, ax⟩ := hk _ et
                refine ⟨a0, vs, j, x, rfl, ay.int, SqL.of b, ax, c x H2 ⟨h2, G2, f2, .pk i (some (.ix k)), [], ⟨r2.st, .pk (t := t) ⟨_, ev, a0, rfl, vs, b, ex⟩ ?_, by simpa using r2.st.nd, by simpa using r1.drop.trans r2.drop, pur⟩, w4⟩⟩
                simp only [atE, eg, T.kid]
                exact et
              · exact w4.elim
            · exact w4.elim
        · exact w4.elim
end
end DL

/-! A dict of things of its own: its display, its parts. -/
namespace DL
open PySem PySem.Spec L2

theorem valV_look : ∀ (m : List (Key × V)) (k : Key), valV m k = look m k
  | [], _ => rfl
  | (k', v) :: r, k => by
    have ih := valV_look r k
    unfold valV at ih ⊢
    by_cases e : k' = k
    · simp [List.find?, e, look]
    · simp [List.find?, e, look, ih]
theorem OwnK.got {K : PySem.W.Frag} {h H : Hp} {k : Key} {t : T} : ∀ {l : List (Key × T)} {m : List (Key × V)} {fp : List Addr}, OwnK K h H l m fp → look l k = some t → ∃ v, look m k = some v
  | _, _, _, .nil, e => by cases e
  | _, _, _, .cons (k := k') (v := v) b r, e => by
    by_cases q : k' = k
    · exact ⟨v, by simp [look, q]⟩
    · simp only [look, if_neg q] at e ⊢
      exact r.got e
def kidM (o : Option (Option T)) (k : Str) (f : D → Prop) (g : Prop) : Prop := match o with
  | some (some (.dm ts)) => (match look ts (.inr k) with
    | some (.fz d) => f d
    | some _ => g
    | none => False)
  | _ => False
/-- the part of a dict under a name -/
def dKidK (k : Str) (ta : DTE) : DTE := fun G Q => ta G fun G1 va => match va with
  | .pk i none => kidM G1[i]? k (fun d => Q G1 (.t (.fz d))) (Q G1 (.pk i (some (.ky (.inr k)))))
  | _ => False
section
variable {X : Cx} {pa pb pc : Bool} {a b c : Expr} {tA tB tC' : DTE} {pos : Pos}
theorem de_kidK {k : Str} {j : Nat} {p2 : Pos} (hu : X.A.units + 1 < cLine) (ha : DE X pa a tA) (hs : PlainIx (.Constant (.str k) j p2)) : DE X pa (.Subscript a (.Constant (.str k) j p2) pos) (dKidK k tA) := by
  refine pe_imp (pe_ix (ix_dict hu) ha (pe_str (x := k) (j := j) (pos := p2)) hs) fun σ H Q ⟨h, G, fp, Q', S, w, c⟩ => ?_
  refine ⟨h, G, fp, _, S, w, fun v H1 p1 => ?_⟩
  obtain ⟨h1, G1, f1, va, fva, r1, w1⟩ := p1
  cases va with
  | t t => exact w1.elim
  | pk i p =>
    cases p with
    | some s => exact w1.elim
    | none =>
      cases r1.ov with
      | pk l e =>
        obtain ⟨v0, ev, hv⟩ := l
        subst hv
        dsimp only at w1
        unfold kidM at w1
        split at w1
        · rename_i ts eg
          obtain ⟨g1, gc, g2, ef, oc, _⟩ := r1.st.env.slot eg ev
          cases oc with
          | @dm a0 _ m fpk n b ow =>
            split at w1
            · rename_i d ed
              obtain ⟨x, ex⟩ := ow.got ed
              obtain ⟨q1, qc, q2, _, oz, _⟩ := ow.at ed ex
              cases oz with
              | fz ad => exact ⟨a0, x, rfl, .inl ⟨m, .inr k, .inl b, rfl, by rw [valV_look, ex]⟩, c x H1 ⟨h1, G1, f1, _, [], ⟨r1.st, .t (.fz ad), by simpa using r1.st.nd, by simpa using r1.drop, r1.pu⟩, w1⟩⟩
            · rename_i t hne et
              obtain ⟨x, ex⟩ := ow.got et
              refine ⟨a0, x, rfl, .inl ⟨m, .inr k, .inl b, rfl, by rw [valV_look, ex]⟩, c x H1 ⟨h1, G1, f1, .pk i (some (.ky (.inr k))), [], ⟨r1.st, .pk (t := t) ⟨_, ev, a0, rfl, m, b, ex⟩ ?_, by simpa using r1.st.nd, by simpa using r1.drop, r1.pu⟩, w1⟩⟩
              simp only [atE, eg, T.kid]
              exact et
            · exact w1.elim
        · exact w1.elim
/-- x[i], x a name, the index with whatever it does -/
def dIxV (i : Nat) (tb : DTE) : DTE := fun G Q => (∃ t, G[i]? = some (some t)) ∧ tb G fun G1 vb => rdW G1 vb fun y => (match G1[i]? with
  | some (some t) => rdT t fun x => ixD x y fun r => Q G1 (.t r)
  | _ => False)
theorem de_ixV {i : Nat} (hu : X.A.units + 1 < cLine) (ha : PE X a (tVar i)) (hb : DE X pb b tB) (hs : PlainIx b) : DE X false (.Subscript a b pos) (dIxV i tB) := by
  refine pe_imp (pe_ix (ix_ok hu) ha hb hs) fun σ H Q ⟨h, G, fp, Q', S, ⟨⟨t0, e0⟩, w⟩, c⟩ => ?_
  obtain ⟨v, ev⟩ := S.env.has e0
  refine ⟨v, ev, h, G, fp, _, S, w, fun u H1 ⟨h1, G1, f1, vb, fvb, r1, w1⟩ => ?_⟩
  obtain ⟨y, ay, w2⟩ := r1.ov.rd r1.st w1
  split at w2
  · rename_i t et
    have ea : atE G1 i none = some t := by simp only [atE, et]
    obtain ⟨x, ax, w3⟩ := OwnV.rd (k := fun x => ixD x y fun r => Q' G1 (.t r)) r1.st (.pk (i := i) (p := none) (v := v) (t := t) ⟨v, ev, rfl⟩ ea) (by simp only [rdW, ea]; exact w2)
    exact ⟨h1, x, y, _, r1.st.sub, ax, ay, w3, fun v' H' o => c v' H' (by
      obtain ⟨h2, G2, f2, vl, fv, r, q⟩ := o.res r1.st r1.drop (fun z => by cases z) (pu := false) fun t q => q
      exact ⟨h2, G2, f2, vl, fv, r, q⟩)⟩
  · exact w2.elim
/-- {k1: a, k2: b, k3: c}, c a thing of its own -/
def dDisp3 (k1 k2 k3 : Str) (t1 t2 t3 : DTE) : DTE := fun G Q => t1 G fun G1 v1 => fzW G1 v1 fun G1 d1 => t2 G1 fun G2 v2 => fzW G2 v2 fun G2 d2 => t3 G2 fun G3 v3 => match v3 with
  | .t t => Q G3 (.t (.dm [(.inr k1, .fz d1), (.inr k2, .fz d2), (.inr k3, t)]))
  | .pk _ _ => False
theorem de_disp3 {k1 k2 k3 : Str} {j1 j2 j3 : Nat} {p1 p2 p3 : Pos} (h12 : k1 ≠ k2) (h13 : k1 ≠ k3) (h23 : k2 ≠ k3) (ha : DE X pa a tA) (hb : DE X pb b tB) (hc : DE X pc c tC') :
    DE X false (.Dict [some (.Constant (.str k1) j1 p1), some (.Constant (.str k2) j2 p2), some (.Constant (.str k3) j3 p3)] [a, b, c] pos) (dDisp3 k1 k2 k3 tA tB tC') := by
  refine pe_imp (pe_disp (pps_cons pe_str ha (pps_cons pe_str hb (pps_cons pe_str hc pps_nil))) rfl rfl (by simp) (by simp)) fun σ H Q ⟨h, G, fp, Q', S, w, k⟩ => ?_
  intro p hp
  have hn : h p = none := by
    cases e : h p with
    | none => rfl
    | some o => rcases S.sub p o e with q | ⟨_, ob, q⟩ <;> rw [hp] at q <;> cases q
  have g0 : Same H (upd H p (.dK [])) := fun x o e => by rw [upd_ne (fun z => by rw [z, hp] at e; cases e)]; exact e
  have S0 : Stt X.K h (upd H p (.dK [])) G σ fp := S.grow (Same.refl h) (fun x o e => by
    have nx : x ≠ p := fun z => by rw [z, hn] at e; cases e
    rw [upd_ne nx]; exact S.sub x o e) g0 fun x o e => .inl e
  have nfp : p ∉ fp := fun m => by obtain ⟨_, o, e⟩ := S.env.there p m; rw [hp] at e; cases e
  refine ⟨h, G, fp, _, S0, w, fun va H1 ⟨h1, G1, f1, vla, fva, r1, w1⟩ => ?_⟩
  obtain ⟨h2, G2, f2, d1, S2, a2, e2, w2⟩ := r1.fz w1
  refine ⟨h2, G2, f2, _, S2, w2, fun vb H3 ⟨h3, G3, f3, vlb, fvb, r3, w3⟩ => ?_⟩
  obtain ⟨h4, G4, f4, d2, S4, a4, e4, w4⟩ := r3.fz w3
  refine ⟨h4, G4, f4, _, S4, w4, fun vc H5 ⟨h5, G5, f5, vlc, fvc, r5, w5⟩ => ?_⟩
  cases vlc with
  | pk _ _ => exact w5.elim
  | t t =>
    cases r5.ov with
    | t ot =>
      have E := (e2.trans e4).trans r5.ex
      have hnone : h5 p = none := by
        cases e : h5 p with
        | none => rfl
        | some o =>
          rcases E.hn p o e with q | q | q
          · rw [hn] at q; cases q
          · exact (nfp q).elim
          · rcases q with q | ⟨_, q⟩ <;> (rw [upd_same] at q; cases q)
      have hp5 : H5 p = some (.dK []) := E.stay hnone nfp upd_same
      have nin : p ∉ f5 ++ fvc := fun m => by
        rcases E.nw p m with q | q
        · exact nfp q
        · rw [upd_same] at q; cases q
      refine ⟨hp5, [(.inr k1, va), (.inr k2, vb), (.inr k3, vc)], rfl, by simp, ?_⟩
      have em : mergeK [] [((.inr k1 : Key), va), (.inr k2, vb), (.inr k3, vc)] = [(.inr k1, va), (.inr k2, vb), (.inr k3, vc)] := by
        have q12 : ¬ ((Sum.inr k1 : Key) = Sum.inr k2) := fun z => h12 (Sum.inr.inj z)
        have q13 : ¬ ((Sum.inr k1 : Key) = Sum.inr k3) := fun z => h13 (Sum.inr.inj z)
        have q23 : ¬ ((Sum.inr k2 : Key) = Sum.inr k3) := fun z => h23 (Sum.inr.inj z)
        simp only [mergeK, List.foldl_cons, List.foldl_nil]
        rw [show putK ([] : List (Key × V)) (.inr k1) va = [(.inr k1, va)] from rfl, putK_neg q12, show putK ([] : List (Key × V)) (.inr k2) vb = [(.inr k2, vb)] from rfl, putK_neg q13, putK_neg q23]
        rfl
      rw [em]
      refine k _ _ ⟨h5, G5, f5, _, p :: fvc, ⟨⟨fun x o e => ?_, r5.st.env.move (Same.refl h5) (fun x m => upd_ne fun z => nin (by rw [z] at m; simp [m])) (fun x m => (r5.st.env.there x m).1), r5.st.nd⟩, .t (.dm hnone upd_same ?_), ?_, ⟨E.gh, fun x o m e => ?_, fun x m => ?_, fun x o e => ?_⟩, fun z => by cases z⟩, w5⟩
      · have nx : x ≠ p := fun z => by rw [z, hnone] at e; cases e
        rw [upd_ne nx]; exact r5.st.sub x o e
      · have o1 := ot.move (Same.refl h5) (H' := upd H5 p (.dK [(.inr k1, va), (.inr k2, vb), (.inr k3, vc)])) (fun x m => upd_ne fun z => nin (by rw [z] at m; simp [m])) (fun x m => (ot.there x m).1)
        have q := OwnK.cons (k := (.inr k1 : Key)) (.fz (a2.mono (e4.gh.trans r5.ex.gh))) (OwnK.cons (k := (.inr k2 : Key)) (.fz (a4.mono r5.ex.gh)) (OwnK.cons (k := (.inr k3 : Key)) o1 .nil))
        simpa using q
      · have q := r5.nd
        exact List.perm_middle.nodup_iff.mpr (List.nodup_cons.mpr ⟨nin, q⟩)
      · have nx : x ≠ p := fun z => by rw [z, hp] at e; cases e
        rw [upd_ne nx]; exact E.fr x o m (g0 x o e)
      · by_cases z : x = p
        · exact .inr (by rw [z]; exact hp)
        · have m2 : x ∈ f5 ++ fvc := by simp [z] at m; simpa using m
          rcases E.nw x m2 with q | q
          · exact .inl q
          · rw [upd_ne z] at q; exact .inr q
      · rcases E.hn x o e with q | q | q
        · exact .inl q
        · exact .inr (.inl q)
        · by_cases z : x = p
          · exact .inr (.inr (.inl (by rw [z]; exact hp)))
          · exact .inr (.inr (q.imp (fun q => by rw [upd_ne z] at q; exact q) fun ⟨vs, q⟩ => ⟨vs, by rw [upd_ne z] at q; exact q⟩))
end
/-- the texts' other pen: two numbers and a list -/
abbrev penM (m t : Int) (l : List D) : T := .dm [(.inr "mixed", .fz (.int m)), (.inr "turn", .fz (.int t)), (.inr "wide", .ls l)]
theorem kMT : ¬ ((Sum.inr ("mixed" : Str) : Key) = Sum.inr ("turn" : Str)) := by decide +kernel
theorem kMW : ¬ ((Sum.inr ("mixed" : Str) : Key) = Sum.inr ("wide" : Str)) := by decide +kernel
theorem kTW : ¬ ((Sum.inr ("turn" : Str) : Key) = Sum.inr ("wide" : Str)) := by decide +kernel
section
variable {m t x : Int} {l l' : List D} {f : D → Prop} {g : Prop} {R : T → Prop}
theorem kidM_mixed : kidM (some (some (penM m t l))) "mixed" f g = f (.int m) := by
  simp only [kidM, penM, look, if_true]
theorem kidM_turn : kidM (some (some (penM m t l))) "turn" f g = f (.int t) := by
  simp only [kidM, penM, look, if_neg kMT, if_true]
theorem kidM_wide : kidM (some (some (penM m t l))) "wide" f g = g := by
  simp only [kidM, penM, look, if_neg kMW, if_neg kTW, if_true]
theorem kid_wide : T.kid (penM m t l) (.ky (.inr "wide")) = some (.ls l) := by
  simp only [T.kid, penM, look, if_neg kMW, if_neg kTW, if_true]
theorem setKid_wide : T.setKid (penM m t l) (.ky (.inr "wide")) (.ls l') = penM m t l' := by
  simp only [T.setKid, penM, setL, if_neg kMW, if_neg kTW, if_true]
theorem storeN_turn : storeN (penM m t l) (.str "turn") (.int x) R = R (penM m x l) := by
  simp only [storeN, penM, keyOf, look, if_neg kMT, if_true, setL, List.map_cons, List.map_nil, List.length_cons, List.length_nil]
  have nd : [(Sum.inr ("mixed" : Str) : Key), Sum.inr ("turn" : Str), Sum.inr ("wide" : Str)].Nodup := by decide +kernel
  simp [nd]
end
theorem atE_some {G : En} {i : Nat} {s : Stp} : atE G i (some s) = (match G[i]? with | some (some t) => t.kid s | _ => none) := rfl
theorem setE_some {G : En} {i : Nat} {s : Stp} {t' : T} : setE G i (some s) t' = (match G[i]? with | some (some t) => G.set i (some (t.setKid s t')) | _ => G) := rfl
theorem penM_eq {m t : Int} {l : List D} : T.dm [(.inr "mixed", .fz (.int m)), (.inr "turn", .fz (.int t)), (.inr "wide", .ls l)] = penM m t l := rfl
end DL

/-! dict(..) of a list of pairs whose keys are tuples. -/
namespace DL
open PySem PySem.Spec PyProof.Rows L2

def mergeT (kvs more : List (List Key × V)) : List (List Key × V) := more.foldl (fun acc kv => putK acc kv.1 kv.2) kvs
theorem KT_merge {H : Hp} : ∀ {more : List (List Key × V)} {rs : List (List Key × Addr × Value)} {kvs : List (List Key × V)} {xs : List (List Key × Addr × Value)}, KT H more rs → KT H kvs xs → KT H (mergeT kvs more) (storedAllH xs rs) := by
  intro more rs kvs xs r
  induction r generalizing kvs xs with
  | nil => intro q; exact q
  | @cons p q ps qs h t ih =>
    intro r0
    have e := KT.put r0 p.1 h.2.1 h.2.2
    rw [show storedH xs p.1 q.2.1 q.2.2 = storedH xs q.1 q.2.1 q.2.2 by rw [h.1]] at e
    exact ih e
theorem mergeT_len : ∀ (more kvs : List (List Key × V)), (mergeT kvs more).length ≤ kvs.length + more.length
  | [], kvs => Nat.le_refl _
  | p :: r, kvs => by
    have h1 := mergeT_len r (putK kvs p.1 p.2)
    have h2 := length_putK kvs p.1 p.2
    rw [List.length_cons]
    show (mergeT (putK kvs p.1 p.2) r).length ≤ _
    omega
section
variable {X : Cx}
theorem tpairs_of {pins : List (Addr × Obj)} {σ : L2.St} {H : Hp} {s : Shared} (I : Inv X pins σ H s) : ∀ {ps : List Addr} {kvs : List (List Key × V)}, Paired (fun p (kv : List Key × V) => ∃ b, SqT X.K H p [.ref b, kv.2] ∧ H b = some (.tup (kv.1.map kV))) ps kvs →
    ∃ rs : List (List Key × Addr × Value), KT H kvs rs ∧ rs.length = ps.length ∧ ∀ (j : Nat) (x : List Key × Addr × Value), rs[j]? = some x → ∃ p : Addr, ps[j]? = some p ∧ IsTup s.heap p #[.ref x.2.1, x.2.2] ∧ H x.2.1 = some (.tup (x.1.map kV))
  | _, _, .nil => ⟨[], .nil, rfl, fun j x e => by simp at e⟩
  | _, _, .cons (a := p) (b := kv) h t => by
    obtain ⟨rs, r, hl, hr⟩ := tpairs_of I t
    obtain ⟨b, ht, hb⟩ := h
    obtain ⟨its, rv, tp, _⟩ := I.tuple ht
    obtain ⟨u, y, ei, ru, ry⟩ := vals2 rv
    cases (show u = Value.ref b from ru)
    subst ei
    refine ⟨(kv.1, b, y) :: rs, .cons ⟨rfl, hb, ry⟩ r, by simp [hl], fun j x e => ?_⟩
    cases j with
    | zero =>
      cases (Option.some.inj e : (kv.1, b, y) = x)
      exact ⟨p, rfl, tp, hb⟩
    | succ j =>
      obtain ⟨p', e1, e2, e3⟩ := hr j x (by simpa using e)
      exact ⟨p', by simpa using e1, e2, e3⟩
theorem call_dictPT (hcalm : X.calm = true) (hu : X.A.units + 2 < cLine) : CallR X (.type "dict") (fun xs H Q => ∃ (a : Addr) (ps : List Addr) (kvs : List (List Key × V)), xs = [.ref a] ∧ SqL X.K H a (ps.map V.ref) ∧
    Paired (fun p (kv : List Key × V) => ∃ b, SqT X.K H p [.ref b, kv.2] ∧ H b = some (.tup (kv.1.map kV))) ps kvs ∧ ∀ p, H p = none → Q (.ref p) (upd H p (.dT (mergeT [] kvs)))) := by
  intro pins s σ H xs us Q I r ⟨a, ps, kvs, ex, hq, hp, q⟩
  subst ex
  obtain ⟨u, eu, rx⟩ := vals1 r
  subst eu
  cases rx
  obtain ⟨its, rv, pl, hz⟩ := I.list hq
  have ei := refs_at rv
  subst ei
  rw [List.length_map] at hz
  obtain ⟨rs, rel, hl, hr⟩ := tpairs_of I hp
  obtain ⟨o, n, ho, hc, hd, hdat⟩ := pl
  have hn := I.hok.fresh (Nat.le_refl s.heap.objs.size)
  have P := PairArg.list (prog := X.prog) (w := X.w) a (ps.map Value.ref).toArray (fun j => ps.getD j 0) (rs.map fun x => (Value.ref x.2.1, x.2.2))
  refine call_dict_pairsH (knd := tupleKind (mixKind X.prog X.w)) (ps := rs) P (I.ok.hd hcalm) ?_ ⟨⟨o, n, ho, hc, hd, hdat⟩, ?_, fun j k v e => ?_⟩ ⟨by simp, fun j k v e => ?_⟩ (fun h' hk x mx => ?_) (by rw [List.length_map, hl]; exact hz) fun h' tk hd' hk => ?_
  · show X.A.units + 1 + 1 < cLine
    omega
  · simp [hl]
  · rw [List.getElem?_map] at e
    cases er : rs[j]? with
    | none => rw [er] at e; cases e
    | some x =>
      rw [er] at e
      cases (Option.some.inj e : (Value.ref x.2.1, x.2.2) = (k, v))
      obtain ⟨p, e1, e2, _⟩ := hr j x er
      have eg : ps.getD j 0 = p := by rw [List.getD_eq_getElem?_getD, e1]; rfl
      refine ⟨by simp [e1, eg], ?_⟩
      show PairAt s.heap (ps.getD j 0) _ _
      rw [eg]
      obtain ⟨o2, g1, g2, m2, g3⟩ := e2
      exact .inl ⟨o2, g1, g2, m2, g3⟩
  · have e : (rs.map fun x => (Value.ref x.2.1, x.2.2))[j]? = some (k, v) := e
    rw [List.getElem?_map] at e
    cases er : rs[j]? with
    | none => rw [er] at e; cases e
    | some x =>
      rw [er] at e
      cases (Option.some.inj e : (Value.ref x.2.1, x.2.2) = (k, v))
      exact ⟨x.1, x.2.1, rfl, rfl⟩
  · obtain ⟨j, hj, ej⟩ := List.getElem_of_mem mx
    obtain ⟨p, _, _, e3⟩ := hr j x (by rw [List.getElem?_eq_getElem hj, ej])
    obtain ⟨o, it, m, h1, h2, h3, h4⟩ := L2.key_of I.hok e3
    exact ⟨o, it, m, hk _ _ (Nat.ne_of_lt (Heap.lt_size h1)) (by simp) h1, h2, h3, h4⟩
  · have hm : (s.heap.objs.size == sysModules) = false := beq_eq_false_iff_ne.mpr (Nat.ne_of_gt I.big)
    have hlen : (mergeT [] kvs).length ≤ sizeLine := by
      have h1 := mergeT_len kvs []
      have h2 := Paired.length rel
      rw [List.length_nil] at h1
      omega
    obtain ⟨o', es, ep, g1, g2, g3, g4, _, g5⟩ := hd'
    refine ⟨.ref s.heap.objs.size, upd H s.heap.objs.size (.dT (mergeT [] kvs)), I.laid (t' := tk) (fun b ob e => hk b ob (by simp) e) (Nat.le_refl _) ⟨hlen, hm, storedAllH [] rs, (KT_merge rel .nil).keeps fun c ys ec => ?_, o', es, ep, g1, g2, g3, g4, g5⟩, rfl, q _ hn⟩
    rw [upd_ne (fun z => by rw [z, hn] at ec; cases ec)]
    exact ec
end
theorem putK_snoc {κ : Type} [DecidableEq κ] {l : List (κ × V)} {k : κ} {v : V} (h : k ∉ l.map (·.1)) : putK l k v = l ++ [(k, v)] := by
  unfold putK
  rw [if_neg]
  rw [List.any_eq_true]
  rintro ⟨x, m, e⟩
  exact h (List.mem_map.mpr ⟨x, m, of_decide_eq_true e⟩)
theorem mergeT_new : ∀ (more kvs : List (List Key × V)), ((kvs ++ more).map (·.1)).Nodup → mergeT kvs more = kvs ++ more
  | [], kvs, _ => by simp [mergeT]
  | p :: r, kvs, nd => by
    have hp : p.1 ∉ kvs.map (·.1) := fun m => by
      rw [List.map_append, List.map_cons] at nd
      exact (List.nodup_append.mp nd).2.2 _ m _ (by simp) rfl
    show mergeT (putK kvs p.1 p.2) r = _
    rw [putK_snoc hp, mergeT_new r (kvs ++ [(p.1, p.2)]) (by simpa using nd)]
    simp
/-- the pairs of a row: a tuple of parts by value, whatever -/
def pairsT : List D → Option (List (List Key × D))
  | [] => some []
  | .tup [.tup kd, v] :: r => (match keysOf kd, pairsT r with | some k, some m => some ((k, v) :: m) | _, _ => none)
  | _ => none
def dictTD : DN := fun ds R => match ds with
  | [.lst l] => (match pairsT l with | some m => (m.map (·.1)).Nodup ∧ R (.dt m) | none => False)
  | _ => False
theorem pairsT_at {K : PySem.W.Frag} {h H : Hp} (sb : Sub h H) : ∀ (l : List D) (vs : List V) (m : List (List Key × D)), Ats K h l vs → pairsT l = some m →
    ∃ (ps : List Addr) (kvs : List (List Key × V)), vs = ps.map V.ref ∧ Paired (fun p (kv : List Key × V) => ∃ b, SqT K H p [.ref b, kv.2] ∧ H b = some (.tup (kv.1.map kV))) ps kvs ∧ AtT K h m kvs
  | [], _, m, .nil, e => by
    cases (Option.some.inj e : [] = m)
    exact ⟨[], [], rfl, .nil, .nil⟩
  | d :: r, _, m, .cons a ar, e => by
    unfold pairsT at e
    split at e
    · rename_i h0; cases h0
    · rename_i kd v r' h0
      cases h0
      split at e
      · rename_i k m' ek em
        cases (Option.some.inj e : (k, v) :: m' = m)
        obtain ⟨ps, kvs, e1, e2, e3⟩ := pairsT_at sb r _ m' ar em
        cases a with
        | @tup q _ ws eq aq =>
          cases aq with
          | cons ak av =>
            cases av with
            | cons av nl =>
              cases nl
              cases ak with
              | @tup b _ us eb ab =>
                refine ⟨q :: ps, (k, _) :: kvs, by rw [e1]; rfl, .cons ⟨b, SqT.of (sb.tup eq), ?_⟩ e2, .cons av e3⟩
                rw [← keysOf_at ek ab]
                exact sb.tup eb
      · cases e
    · cases e
section
variable {X : Cx}
theorem OpPost.dtab {K : PySem.W.Frag} {h H : Hp} {R : T → Prop} {p : Addr} {m : List (List Key × D)} {kvs : List (List Key × V)} (s : Sub h H) (np : H p = none) (a : AtT K h m kvs) (q : R (.dt m)) : OpPost K h H R (.ref p) (upd H p (.dT kvs)) := by
  have hp : h p = none := by
    cases e : h p with
    | none => rfl
    | some o => obtain ⟨u, q⟩ := s.there e; rw [np] at q; cases q
  refine ⟨h, .dt m, [p], ⟨Same.refl h, fun a o e => ?_, fun a o e => ?_, .dt hp upd_same a, by simp, by simpa using np, fun _ _ e => .inl e⟩, q⟩
  · rw [upd_ne (fun z => by subst z; rw [hp] at e; cases e)]; exact s a o e
  · rw [upd_ne (ne_of_none e np)]; exact e
theorem dictT_ok (hc : X.calm = true) (hu : X.A.units + 2 < cLine) : CaK X (.type "dict") dictTD := by
  refine ca_of (call_dictPT hc hu) fun xs H Q ⟨h, ds, R, sb, a, w, c⟩ => ?_
  unfold dictTD at w
  split at w
  · split at w
    · rename_i m em
      obtain ⟨v, rfl, a1⟩ := a.one
      obtain ⟨p, vs, rfl, r, al⟩ := a1.lst sb
      obtain ⟨ps, kvs, e1, e2, e3⟩ := pairsT_at sb _ vs m al em
      subst e1
      refine ⟨p, ps, kvs, rfl, SqL.of r, e2, fun q nq => c _ _ ?_⟩
      rw [mergeT_new kvs [] (by rw [List.nil_append, e3.keys]; exact w.1), List.nil_append]
      exact .dtab sb nq e3 w.2
    · exact w.elim
  · exact w.elim
end
end DL

/-! len of dicts; walks over frozen dicts. -/
namespace DL
open PySem PySem.Spec L2
section
variable {X : Cx}
theorem call_lenRd : CallR X (.builtin "len") (fun xs H Q => ∃ a kvs, xs = [V.ref a] ∧ Rd H a (.dK kvs) ∧ Q (.int kvs.length) H) := by
  rintro pins s σ H xs us Q I r ⟨a, kvs, rfl, ha, q⟩
  obtain ⟨u, rfl, ru⟩ := vals1 r
  cases ru
  exact d_len I ha fun t s' J => ⟨.int kvs.length, H, J, ⟨t, rfl⟩, q⟩
def lenKD : DN := fun ds R => match ds with
  | [.dK l] => R (.fz (.int l.length))
  | _ => False
theorem lenK_ok : CaK X (.builtin "len") lenKD := by
  refine ca_of call_lenRd fun xs H Q ⟨h, ds, R, sb, a, w, c⟩ => ?_
  unfold lenKD at w
  split at w
  · obtain ⟨v, rfl, a1⟩ := a.one
    obtain ⟨p, vs, rfl, r, al⟩ := a1.dK sb
    exact ⟨p, vs, rfl, r, by rw [← al.length]; exact c _ H (.plain sb .int w)⟩
  · exact w.elim
/-- the thing that e yields is locked, if it isn't -/
def tLk (t : TE) : TE := fun σ H Q => t σ H fun x H1 => ∃ d u, x = .ref d ∧ ((∃ o, H1 d = some (.frz o u) ∧ Q x H1) ∨ (H1 d = some u ∧ isDic u = true ∧ ∀ o, Q x (upd H1 d (.frz o u))))
theorem pe_lk {e : Expr} {t : TE} (he : PE X e t) : PE X e (tLk t) := ⟨fun pins s σ H Q I w => thn (he.run pins s σ H _ I w) fun v s1 got => by
  obtain ⟨x, H1, J, rx, d, u, ex, ⟨o, e1, q⟩ | ⟨e1, hd, q⟩⟩ := got
  · exact ⟨x, H1, J, rx, q⟩
  · obtain ⟨o, J2⟩ := J.lock e1 (by cases u <;> first | trivial | cases hd)
    exact ⟨x, _, J2, rx, q o⟩⟩
def keyD : Key → D
  | .inl i => .int i
  | .inr x => .str x
/-- the keys of a frozen dict -/
def iDict (te : DTE) : DTI := fun G Q => te G fun G1 v => fzW G1 v fun G2 d => match d with | .dK l => Q G2 (l.map fun p => keyD p.1) | .dT l => Q G2 (l.map fun p => .tup (p.1.map keyD)) | _ => False
theorem key_at {K : PySem.W.Frag} {h : Hp} (k : Key) : At K h (keyD k) (kV k) := by cases k <;> first | exact .int | exact .str
theorem keys_at {K : PySem.W.Frag} {h : Hp} : ∀ k : List Key, Ats K h (k.map keyD) (k.map kV)
  | [] => .nil
  | k :: r => .cons (key_at k) (keys_at r)
theorem AtK.get {K : PySem.W.Frag} {h : Hp} : ∀ {l : List (Key × D)} {m : List (Key × V)} {i : Nat}, AtK K h l m → (l.map (·.1))[i]? = (m.map (·.1))[i]?
  | _, _, _, .nil => rfl
  | _, _, 0, .cons _ _ => rfl
  | _, _, i + 1, .cons _ r => by simpa using AtK.get (i := i) r
theorem AtT.get {K : PySem.W.Frag} {h : Hp} : ∀ {l : List (List Key × D)} {m : List (List Key × V)} {i : Nat}, AtT K h l m → (l.map (·.1))[i]? = (m.map (·.1))[i]?
  | _, _, _, .nil => rfl
  | _, _, 0, .cons _ _ => rfl
  | _, _, i + 1, .cons _ r => by simpa using AtT.get (i := i) r
/-- a frozen dict is locked: what is known stays -/
theorem Stt.lock {K : PySem.W.Frag} {h H : Hp} {G : En} {σ : L2.St} {fp : List Addr} {a : Addr} {u : HO} (S : Stt K h H G σ fp) (ha : h a = some u) (hd : isDic u = true) (e : H a = some u) (o : Obj) :
    Stt K h (upd H a (.frz o u)) G σ fp ∧ Ext h H fp h (upd H a (.frz o u)) fp := by
  have nf : ∀ x ∈ fp, x ≠ a := fun x m z => by have := (S.env.there x m).1; rw [z, ha] at this; cases this
  refine ⟨⟨fun x w ew => ?_, S.env.move (Same.refl h) (fun x m => upd_ne (nf x m)) (fun x m => (S.env.there x m).1), S.nd⟩, ⟨Same.refl h, fun x w m ew => ?_, fun x m => .inl m, fun x w ew => .inl ew⟩⟩
  · by_cases z : x = a
    · subst z
      rw [ha] at ew; cases ew
      exact .inr ⟨hd, o, upd_same⟩
    · rw [upd_ne z]; exact S.sub x w ew
  · by_cases z : x = a
    · subst z
      rw [e] at ew; cases ew
      exact .inr ⟨hd, ⟨o, upd_same⟩, u, ha⟩
    · rw [upd_ne z]; exact .inl ew
theorem gives_keys {K : PySem.W.Frag} {h0 H0 : Hp} {a : Addr} {o : Obj} {l : List (Key × D)} {m : List (Key × V)} (e0 : H0 a = some (.frz o (.dK m))) (al : AtK K h0 l m) : Gives K (Itk a o m) h0 H0 (l.map fun p => keyD p.1) := fun h H s z sb => by
  have e := z a _ _ e0
  refine ⟨fun i d ed => ?_, e, by rw [List.length_map, al.length]; exact Nat.le_refl _⟩
  have ek := al.get (i := i)
  rw [List.getElem?_map, Option.map_eq_some_iff] at ed
  obtain ⟨p, ep, rfl⟩ := ed
  rw [List.getElem?_map, ep, List.getElem?_map] at ek
  cases em : m[i]? with
  | none => rw [em] at ek; cases ek
  | some q =>
    rw [em] at ek
    have ek : p.1 = q.1 := Option.some.inj ek
    refine ⟨⟨e, (List.getElem?_eq_some_iff.mp em).1⟩, fun x H' ⟨eh, k, v, e1, ex⟩ => ?_⟩
    subst eh ex
    rw [em] at e1
    cases e1
    exact ⟨h, Same.refl h, sb, Same.refl H', fun _ _ e => .inl e, by rw [ek]; exact key_at _⟩
/-- a frozen key's own tuple -/
theorem gives_keysT {K : PySem.W.Frag} {h0 H0 : Hp} {a : Addr} {o : Obj} {l : List (List Key × D)} {m : List (List Key × V)} (e0 : H0 a = some (.frz o (.dT m))) (al : AtT K h0 l m) : Gives K (Itkt a o m) h0 H0 (l.map fun p => .tup (p.1.map keyD)) := fun h H s z sb => by
  have e := z a _ _ e0
  refine ⟨fun i d ed => ?_, e, by rw [List.length_map, al.length]; exact Nat.le_refl _⟩
  have ek := al.get (i := i)
  rw [List.getElem?_map, Option.map_eq_some_iff] at ed
  obtain ⟨p, ep, rfl⟩ := ed
  rw [List.getElem?_map, ep, List.getElem?_map] at ek
  cases em : m[i]? with
  | none => rw [em] at ek; cases ek
  | some q =>
    rw [em] at ek
    have ek : p.1 = q.1 := Option.some.inj ek
    refine ⟨⟨e, (List.getElem?_eq_some_iff.mp em).1⟩, fun x H' ⟨eh, k, v, q', e1, ex, et⟩ => ?_⟩
    subst eh ex
    rw [em] at e1
    cases e1
    rw [ek]
    have hq : ∀ o, h q' = some o → o = .tup (k.map kV) := fun o eo => by
      rcases sb q' o eo with r | ⟨_, ob, r⟩ <;> (rw [et] at r; cases r)
      rfl
    have sm : Same h (upd h q' (.tup (k.map kV))) := fun x o eo => by
      by_cases zz : x = q'
      · subst zz; rw [upd_same, hq o eo]
      · rw [upd_ne zz]; exact eo
    refine ⟨upd h q' (.tup (k.map kV)), sm, fun x o eo => ?_, Same.refl _, fun x o eo => ?_, .tup upd_same ((keys_at k))⟩
    · by_cases zz : x = q'
      · subst zz; rw [upd_same] at eo; cases eo; exact .inl et
      · rw [upd_ne zz] at eo; exact sb x o eo
    · by_cases zz : x = q'
      · subst zz; exact .inr (.inr ⟨_, et⟩)
      · rw [upd_ne zz] at eo; exact .inl eo
theorem di_dict {tg e : Expr} {te : DTE} {pa : Bool} (he : DE X pa e te) : DI X tg e (iDict te) := pi_imp (pi_keys (pe_lk he)) fun σ H Q ⟨h, G, fp, Q', S, w, c⟩ => by
  refine ⟨h, G, fp, _, S, w, fun v H1 ⟨h1, G1, f1, va, fva, r1, w1⟩ => ?_⟩
  obtain ⟨h2, G2, f2, d, S2, a2, e2, w2⟩ := r1.fz w1
  cases d with
  | dK l =>
    cases a2 with
    | @dK a _ m ra al =>
      rcases S2.sub.rd ra with q | ⟨o, q⟩
      · -- not locked so far
        have ha : h2 a = some (.dK m) := by
          rcases ra with r | ⟨o, r⟩
          · exact r
          · have := S2.sub a _ r
            rcases this with z | ⟨z, _⟩
            · rw [q] at z; cases z
            · cases z
        refine ⟨a, .dK m, rfl, .inr ⟨q, rfl, fun o => ?_⟩⟩
        obtain ⟨S3, e3⟩ := S2.lock ha rfl q o
        exact ⟨a, o, rfl, .inl ⟨m, upd_same, c _ _ ⟨h2, G2, f2, _, S3, e2.trans e3, gives_keys upd_same al, w2⟩⟩⟩
      · exact ⟨a, .dK m, rfl, .inl ⟨o, q, a, o, rfl, .inl ⟨m, q, c _ _ ⟨h2, G2, f2, _, S2, e2, gives_keys q al, w2⟩⟩⟩⟩
  | dT l =>
    cases a2 with
    | @dT a _ m ra al =>
      rcases S2.sub.rd ra with q | ⟨o, q⟩
      · have ha : h2 a = some (.dT m) := by
          rcases ra with r | ⟨o, r⟩
          · exact r
          · have := S2.sub a _ r
            rcases this with z | ⟨z, _⟩
            · rw [q] at z; cases z
            · cases z
        refine ⟨a, .dT m, rfl, .inr ⟨q, rfl, fun o => ?_⟩⟩
        obtain ⟨S3, e3⟩ := S2.lock ha rfl q o
        exact ⟨a, o, rfl, .inr ⟨m, upd_same, c _ _ ⟨h2, G2, f2, _, S3, e2.trans e3, gives_keysT upd_same al, w2⟩⟩⟩
      · exact ⟨a, .dT m, rfl, .inl ⟨o, q, a, o, rfl, .inr ⟨m, q, c _ _ ⟨h2, G2, f2, _, S2, e2, gives_keysT q al, w2⟩⟩⟩⟩
  | _ => exact w2.elim
end
end DL

/-! sorted of a tuple. -/
namespace DL
open PySem PySem.Spec PyProof.Rows L2
section
variable {prog : Program} {w : World} {A : Around} {E : Value → Shared → Prop} {s : Shared}
/-- a tuple's items, taken into a new list -/
theorem collect_tup {l : Addr} {ys : List Value} {Z : List Value → Shared → Prop} (ht : IsTup s.heap l ys.toArray) (hm : ys.length ≤ sizeLine)
    (k : Z ys { s with heap := (s.heap.push (seqObj "list" #[] 0)).update s.heap.objs.size (Obj.mapSeq (· ++ ys.toArray)) }) : wpAny (model prog w) A (collect (.ref l)) Z E s := by
  obtain ⟨ob, hob, hcl, ep, hda⟩ := ht
  have far : (s.heap.push (seqObj "list" #[] 0)).get? l = some ob := Heap.get?_push_of_some _ hob
  have near : (s.heap.push (seqObj "list" #[] 0)).get? s.heap.objs.size = some (seqObj "list" #[] 0) := Heap.get?_push_size _ rfl
  unfold collect
  refine wpAny_bind (wpAny_runValue (codeAny_builtin PyProof.Rows.entry_proto_collect' (show wpAny _ _ (do again (.builtin "list.__iadd__" ⟨[← newList [], .ref l], []⟩)) _ _ s from ?_)))
  refine wpAny_bind (wpAny_newList (wpAny_pure ⟨Code.quiet_builtin _ (by decide +kernel), codeAny_builtin PyProof.Rows.entry_list_iadd' (show wpAny _ _ (Builtin.List.listExtendWith (.ref s.heap.objs.size) (.ref l) (.ref s.heap.objs.size)) _ _ { s with heap := s.heap.push (seqObj "list" #[] 0) } from ?_)⟩))
  unfold Builtin.List.listExtendWith
  refine wpAny_bind (wpAny_typeOf (T := "tuple") ⟨ob, far, hcl⟩ ?_)
  rw [if_pos (by have : (Value.type "tuple" == Value.type "tuple") = true := by rfl
                 rw [this]; simp)]
  refine wpAny_bind (listItems_at far hda (wpAny_bind (listItems_at (xs := #[]) (n := 0) near rfl ?_)))
  rw [if_neg (by simp)]
  refine wpAny_bind (listUpdate_at (xs := #[]) (n := 0) near rfl (wpAny_pure ?_) (Nat.zero_le _) (by simp only [Array.size_append, List.size_toArray, List.length_nil]; omega))
  show wpAny (model prog w) A (do let o ← load s.heap.objs.size; match o.data with | .seq xs _ => pure xs.toList | _ => unsupported "internal:collect") Z E _
  refine wpAny_bind (wpAny_load (get?_update_seq near _) ?_)
  have e : ((#[] : Array Value) ++ ys.toArray).toList = ys := by simp
  show wpAny _ _ (pure ((#[] : Array Value) ++ ys.toArray).toList) Z E _
  rw [e]; exact wpAny_pure k
theorem sorted_tup {l : Addr} {ys : List Value} {lt : Value → Value → Bool} {Z : Value → Shared → Prop} (sw : SrtO.Swo lt) (ht : IsTup s.heap l ys.toArray) (hm : ys.length ≤ sizeLine)
    (can : 2 ≤ ys.length → ∀ (g : Heap) (a : Addr), g.get? a = some (seqObj "list" ys.toArray 0) → (∀ b o, s.heap.get? b = some o → b ≠ a ∧ g.get? b = some o) → SrtO.SortableO prog w A.in1.in1 { s with heap := g } a ys lt)
    (k : ∀ out : List Value, SrtO.Srtd lt out → SrtO.Stb lt out ys → Z (.ref (s.heap.objs.size + 1)) { s with heap := sortedAll s.heap ys out.toArray }) : wpAny (model prog w) A (call (.builtin "sorted") [.ref l]) Z E s := by
  refine Calls.call_function_entry kind_sorted plain_sorted entry_sorted (args_sorted1 _) ?_
  unfold Builtin.«sorted»
  refine wpAny_bind (m := checkCount "sorted" 1 1 _) (wpAny_pure (wpAny_bind (collect_tup ht hm (wpAny_bind (wpAny_newList ?_ hm)))))
  have sz : ((s.heap.push (seqObj "list" #[] 0)).update s.heap.objs.size (Obj.mapSeq (· ++ ys.toArray))).objs.size = s.heap.objs.size + 1 := by rw [Heap.size_update]; exact size_push' _ _
  generalize hg : ((s.heap.push (seqObj "list" #[] 0)).update s.heap.objs.size (Obj.mapSeq (· ++ ys.toArray))) = g at sz
  have here : (g.push (seqObj "list" ys.toArray 0)).get? (s.heap.objs.size + 1) = some (seqObj "list" ys.toArray 0) := by rw [← sz]; exact Heap.get?_push_size _ rfl
  have stay : ∀ b o, s.heap.get? b = some o → b ≠ s.heap.objs.size + 1 ∧ (g.push (seqObj "list" ys.toArray 0)).get? b = some o := fun b o q => by
    have low : b < s.heap.objs.size := Heap.lt_size q
    refine ⟨Nat.ne_of_lt (Nat.lt_succ_of_lt low), Heap.get?_push_of_some _ ?_⟩
    rw [← hg, Heap.get?_update_ne _ _ _ _ (Nat.ne_of_lt low)]
    exact Heap.get?_push_of_some _ q
  show wpAny _ _ _ _ _ { s with heap := g.push (seqObj "list" ys.toArray 0) }
  rw [sz]
  refine wpAny_bind (wpAny_holding (wpAny_call_entry slot_list_sort ⟨_, here, rfl⟩ entry_list_sort (SrtO.list_sort_ord sw here hm (fun h2 => can h2 _ _ here stay) fun out h1 h2 => ⟨_, rfl, wpAny_pure ⟨_, rfl, ?_⟩⟩) (args_list_sort _)))
  have := k out h1 h2
  unfold sortedAll at this
  rw [hg] at this
  exact this
end
section
variable {X : Cx}
def rSortTI (K : PySem.W.Frag) : List V → Hp → VK → Prop := fun vs H Q => ∃ (a : Addr) (ns : List Int), vs = [V.ref a] ∧ SqT K H a (ns.map V.int) ∧ ∀ (ns' : List Int) (p : Addr), ns'.Perm ns → ns'.Pairwise (· ≤ ·) → H p = none → Q (.ref p) (upd H p (.lst (ns'.map V.int)))
theorem cr_sortTI : CallR X (.builtin "sorted") (rSortTI X.K) := by
  rintro pins s σ H vs us Q I r ⟨a, ns, rfl, hs, q⟩
  obtain ⟨its, rv, ht, hz⟩ := I.tuple hs
  rw [Vals.ref1 r]
  have hi := rv.ints
  have hzi : its.length ≤ sizeLine := rv.length ▸ hz
  refine sorted_tup SrtO.swo_int ht hzi (fun h2 g a' _ _ => SrtO.ints_sortable hi h2) fun out h1 h2 => ?_
  obtain ⟨k1, k2, k3⟩ := SrtO.ints_out hi h1 h2
  obtain ⟨ep, he⟩ := sortedAll_at s.heap its out.toArray
  have hl : ((out.map SrtO.iv).map V.int).length ≤ sizeLine := by simpa [h2.len] using hzi
  exact ⟨.ref _, upd H (s.heap.objs.size + 1) (.lst ((out.map SrtO.iv).map V.int)), I.laid (t' := s.toks) (fun _ _ => sortedAll_old) (Nat.le_succ _) ⟨hl, out, ep, vals_of_ints k1, he⟩, rfl, q _ _ k2 k3 (I.hok.fresh (Nat.le_succ _))⟩
def rSortTP (K : PySem.W.Frag) : List V → Hp → VK → Prop := fun vs H Q => ∃ (a : Addr) (xs : List V) (k : V → Int × Int), vs = [V.ref a] ∧ SqT K H a xs ∧ (∀ x ∈ xs, ∃ t, x = V.ref t ∧ H t = some (.tup [.int (k x).1, .int (k x).2])) ∧
  ∀ ys p, SrtO.Srtd (L2.ltP k) ys → SrtO.Stb (L2.ltP k) ys xs → H p = none → Q (.ref p) (upd H p (.lst ys))
theorem cr_sortTP : CallR X (.builtin "sorted") (rSortTP X.K) := by
  rintro pins s σ H vs us Q I r ⟨a, xs, k, rfl, hs, hx, q⟩
  obtain ⟨its, rv, ht, hz⟩ := I.tuple hs
  rw [Vals.ref1 r]
  obtain ⟨e1, e2⟩ := refs_back rv fun x m => ⟨_, (hx x m).choose_spec.1⟩
  have hzi : its.length ≤ sizeLine := rv.length ▸ hz
  have pair : ∀ v ∈ its, Srt.IsPair s.heap v (k (backV v)).1 (k (backV v)).2 := fun v hv => by
    obtain ⟨t, rfl⟩ := e2 v hv
    obtain ⟨t', e, ht'⟩ := hx (V.ref t) (by rw [e1]; exact List.mem_map.mpr ⟨_, hv, rfl⟩)
    cases e
    obtain ⟨_, its2, r2, o, ho, hc, n, hd⟩ := I.hok _ _ ht'
    obtain ⟨u1, u2, rfl, ⟨t1, rfl⟩, ⟨t2, rfl⟩⟩ := vals2 r2
    exact ⟨t, o, t1, t2, n, rfl, ho, hc, hd⟩
  refine sorted_tup (SrtO.swo_lex fun u => k (backV u)) ht hzi (fun h2 g a' ha kk => SrtO.pairs_sortableO (s := { s with heap := g }) (by omega) (fun v hv => (pair v hv).keeps fun b o e _ => (kk b o e).2) fun o e c => ?_) fun out h1 h2 => ?_
  · have : some o = some (seqObj "list" its.toArray 0) := e.symm.trans ha
    cases this
    exact absurd (Value.type.inj c) (by decide)
  · have h3 : ∀ u ∈ out, ∃ a, u = Value.ref a := fun u hu => e2 u (h2.perm.mem_iff.mp hu)
    obtain ⟨ep, he⟩ := sortedAll_at s.heap its out.toArray
    have hb : SrtO.Stb (L2.ltP k) (out.map backV) xs := e1 ▸ SrtO.Stb.map (ltP_swo k) backV h2
    have hl : (out.map backV).length ≤ sizeLine := hb.len ▸ hz
    exact ⟨.ref _, upd H (s.heap.objs.size + 1) (.lst (out.map backV)), I.laid (t' := s.toks) (fun _ _ => sortedAll_old) (Nat.le_succ _) ⟨hl, out, ep, vals_back h3, he⟩, rfl, q _ _ (SrtO.srtd_map h1) hb (I.hok.fresh (Nat.le_succ _))⟩
def sortedTD : DN := fun ds R => match ds with
  | [.tup l] => (∃ ns : List Int, l = ns.map .int ∧ ∀ ns' : List Int, ns'.Perm ns → ns'.Pairwise (· ≤ ·) → R (.ls (ns'.map .int))) ∨
      (∃ ps : List (Int × Int), l = ps.map pairD ∧ ∀ ps' : List (Int × Int), ps'.Perm ps → ps'.Pairwise leP → R (.ls (ps'.map pairD)))
  | _ => False
theorem sortedT_ok : CaK X (.builtin "sorted") sortedTD := by
  refine ca_of (CallR.or cr_sortTI cr_sortTP) fun xs H Q ⟨h, ds, R, sb, a, w, c⟩ => ?_
  unfold sortedTD at w
  split at w
  · obtain ⟨v, rfl, a1⟩ := a.one
    obtain ⟨p, vs, rfl, r, al⟩ := a1.tup sb
    rcases w with ⟨ns, rfl, w⟩ | ⟨ps, rfl, w⟩
    · exact .inl ⟨p, ns, rfl, by rw [← ats_ints al]; exact SqT.of r, fun ns' q p1 p2 np => c _ _ (.list sb np ints_ats (w ns' p1 p2))⟩
    · obtain ⟨ts, rfl, rfl, et⟩ := ats_pairs al
      have eH : ∀ t ∈ ts, H t.1 = some (.tup [.int t.2.1, .int t.2.2]) := fun t m => sb.tup (et t m)
      obtain ⟨k, hk⟩ := key_of ts fun t m u m2 e => by
        have e1 := et t m
        rw [e, et u m2] at e1
        simp only [Option.some.injEq, HO.tup.injEq, List.cons.injEq, V.int.injEq, and_true] at e1
        exact Prod.ext e1.1.symm e1.2.symm
      refine .inr ⟨p, _, k, rfl, SqT.of r, fun x m => ?_, fun ys q srt stb nq => ?_⟩
      · obtain ⟨t, mt, rfl⟩ := List.mem_map.mp m
        exact ⟨t.1, rfl, by rw [hk t mt]; exact eH t mt⟩
      · obtain ⟨ts', pt, rfl⟩ := perm_map_inv stb.perm
        have et' : ∀ t ∈ ts', h t.1 = some (.tup [.int t.2.1, .int t.2.2]) := fun t m => et t (pt.mem_iff.mp m)
        refine c _ _ (.list sb nq (pairs_ats et') (w _ (pt.map _) ?_))
        refine List.pairwise_map.mpr ((List.pairwise_map.mp srt).imp_of_mem fun {t u} m1 m2 hh => ?_)
        have hh2 : SrtO.lexB (k (V.ref u.1)) (k (V.ref t.1)) = false := hh
        rw [hk t (pt.mem_iff.mp m1), hk u (pt.mem_iff.mp m2)] at hh2
        have := SrtO.lexB_no.mp hh2
        unfold leP
        omega
  · exact w.elim
end
end DL

/-! list(range(a, b)); defs as values. -/
namespace DL
open PySem PySem.Spec L2
section
variable {X : Cx}
def dListR2 (ta tb : DTE) : DTE := fun G Q => ta G fun G1 va => rdW G1 va fun x => isI x fun i => tb G1 fun G2 vb => rdW G2 vb fun y => isI y fun j => RgOk i j ∧ Q G2 (.t (.ls (upto i (j - i).toNat)))
theorem de_listR2 {a b : Expr} {ta tb : DTE} {pa pb : Bool} {p pos p2 pos2 : Pos} (hc : X.calm = true) (hg : Gl X "list") (hm : X.mg "list" = none) (hgr : Gl X "range") (hmr : X.mg "range" = none) (ha : DE X pa a ta) (hb : DE X pb b tb)
    (na : starEach [a, b] X.env = (false, eval a X.env) :: starEach [b] X.env := by rfl) (nb : starEach [b] X.env = (false, eval b X.env) :: starEach [] X.env := by rfl) (hp : (backTo pos2 (starEach [b] X.env)).any (·.1) = false := by rfl)
    (nc : starEach [.Call (.Name "range" p2) [a, b] [] pos2] X.env = (false, eval (.Call (.Name "range" p2) [a, b] [] pos2) X.env) :: starEach [] X.env := by rfl) :
    DE X (pa && pb) (.Call (.Name "list" p) [.Call (.Name "range" p2) [a, b] [] pos2] [] pos) (dListR2 ta tb) :=
  pe_imp (pe_listRg hc hg hm (prg_2 hgr hmr ha hb na nb hp) nc) fun σ H Q ⟨h, G, fp, Q', S, w, c⟩ => by
    refine ⟨h, G, fp, _, S, w, fun v H1 p1 => ?_⟩
    obtain ⟨h1, G1, f1, va, fva, r1, w1⟩ := p1
    obtain ⟨x, ax, w2⟩ := r1.ov.rd r1.st w1
    obtain ⟨i, ei, w3⟩ := isI_of w2
    rw [ei] at ax
    refine ⟨h1, G1, f1, _, r1.st, w3, fun u H2 p2 => ?_⟩
    obtain ⟨h2, G2, f2, vb, fvb, r2, w4⟩ := p2
    obtain ⟨y, ay, w5⟩ := r2.ov.rd r2.st w4
    obtain ⟨j, ej, w6⟩ := isI_of w5
    rw [ej] at ay
    refine ⟨i, j, ax.int, ay.int, w6.1, fun q nq => c _ _ ?_⟩
    have := OpPost.list (K := X.K) (R := fun t => t = .ls (upto i (j - i).toNat)) r2.st.sub nq (upto_ats i (j - i).toNat) rfl
    refine OpPost.res r2.st (r1.drop.trans r2.drop) (fun z => ?_) this fun t e => e ▸ w6.2
    have z : pa = true ∧ pb = true := by simpa using z
    obtain ⟨q1, q2, q3⟩ := r1.pu z.1
    obtain ⟨p1, p2, p3⟩ := r2.pu z.2
    exact ⟨p1.trans q1, p2.trans q2, fun a m => (p3 a (q2 ▸ m)).trans (q3 a m)⟩
/-- the value of a def's name -/
def fv (mg : Str → Option Value) (x : Str) : V := match mg x with | some (.ref f) => .ref f | _ => .non
section
variable {k j n m : Nat} {x : Str} {F : FS}
theorem de_fun {p : Pos} (f : Fn X.prog X.w X.K X.mg X.base k x n m F) (hg : Gl X x) (hdb : (x == ("__debug__" : Str)) = false := by decide) : DE X true (.Name x p) (dConst (.fz (.opq (fv X.mg x)))) := by
  obtain ⟨a, fd, ps, _, e, _, _⟩ := f
  have ef : fv X.mg x = .ref a := by unfold fv; rw [e]
  rw [ef]
  exact de_const (pe_glob (v := .ref a) hg e rfl hdb) fun _ => .opq
/-- slot i holds one of some defs -/
structure FT where
  x : Str
  k : Nat
  m : Nat
  F : FS
def FTok (X : Cx) (n j : Nat) (T : List FT) : Prop := ∀ t ∈ T, Fn X.prog X.w X.K X.mg X.base t.k t.x n t.m t.F ∧ t.k ≤ j
theorem ftok_nil {n j : Nat} : FTok X n j [] := fun _ h => nomatch h
theorem ftok_cons {T : List FT} {n j : Nat} (h : Fn X.prog X.w X.K X.mg X.base k x n m F) (hk : k ≤ j) (r : FTok X n j T) : FTok X n j (⟨x, k, m, F⟩ :: T) := fun t ht => by
  rcases List.mem_cons.mp ht with rfl | ht
  · exact ⟨h, hk⟩
  · exact r t ht
def dCallV (mg : Str → Option Value) (i n : Nat) (T : List FT) (ta : DTA) : DTE := fun G Q => ∃ t ∈ T, G[i]? = some (some (.fz (.opq (fv mg t.x)))) ∧ dCall n t.F ta G Q
theorem de_callV {i : Nat} {y : Str} {p pos : Pos} {T : List FT} {e : Expr} {es : List Expr} {ta : DTA} {pa : Bool} (ok : FTok X n j T) (hgd : X.A.guards = some []) (hr : Room j X.A) (hN : X.N[i]? = some y) (hv : Vis X.env.scope y) (ha : DA X pa (e :: es) ta)
    (hdb : (y == ("__debug__" : Str)) = false := by decide) (hcd : (y == ("__classdict__" : Str)) = false := by decide) (he : starEach (e :: es) X.env = (false, eval e X.env) :: starEach es X.env := by rfl) (hpl : (backTo pos (starEach es X.env)).any (·.1) = false := by rfl) :
    DE X false (.Call (.Name y p) (e :: es) [] pos) (dCallV X.mg i n T ta) := by
  refine ⟨fun pins s σ H Q I ⟨h, G, fp, Q', S, ⟨t, mt, eg, w⟩, c⟩ => ?_⟩
  obtain ⟨⟨a, fd, ps, F, hm, kp, b⟩, hk⟩ := ok t mt
  have ef : fv X.mg t.x = .ref a := by unfold fv; rw [hm]
  rw [ef] at eg
  obtain ⟨v, ev⟩ := S.env.has eg
  obtain ⟨_, fc, _, _, oc, _, _⟩ := S.env.slot eg ev
  have hv' : v = .ref a := by
    cases oc with
    | fz x => cases x; rfl
  subst hv'
  refine wpAny_Call_Name_kw (thn ((pe_var (pos := p) hN hv hdb hcd).run pins s σ H (fun v H1 => v = .ref a ∧ H1 = H) I ⟨.ref a, ev, rfl, rfl⟩) fun u s1 ⟨v, H1, I1, r1, q1⟩ => ?_)
  obtain ⟨rfl, rfl⟩ := q1
  cases r1
  refine PySem.W.callWith_K (h₀ := X.base) I.ok.mod.kin kp (thn (ha.run pos pins s1 σ _ (fun vs H1 => spOf X.K n t.m t.F vs H1 Q C8.E0) I1 ?_) fun us s2 got => ?_) he hpl
  · refine ⟨h, G, fp, _, S, w, fun vs H1 ⟨h1, G1, f1, as, S1, av, e1, p1, hl, w1⟩ => call_end S1 av e1 hl w1 c⟩
  · obtain ⟨vs, H1, J, r, q⟩ := got
    exact ⟨J.kIn, runG F hgd (hr.mono hk) b J r q⟩
end
end
end DL

/-! xs[::-1]. -/
namespace DL
open PySem PySem.Spec L2
section
variable {X : Cx}
def dRevL (te : DTE) : DTE := fun G Q => te G fun G1 v => rdW G1 v fun d => match d with | .lst l => Q G1 (.t (.ls l.reverse)) | _ => False
theorem de_revL {e : Expr} {te : DTE} {pa : Bool} {k : Nat} {p1 p2 p3 pos : Pos} (he : DE X pa e te) : DE X pa (.Subscript e (.Slice none none (some (.UnaryOp .USub (.Constant (.int 1) k p1) p2)) p3) pos) (dRevL te) :=
  pe_imp (pe_revL he) fun σ H Q ⟨h, G, fp, Q', S, w, c⟩ => by
    refine ⟨h, G, fp, _, S, w, fun v H1 p1 => ?_⟩
    obtain ⟨h1, G1, f1, va, fva, r1, w1⟩ := p1
    obtain ⟨x, ax, w2⟩ := r1.ov.rd r1.st w1
    split at w2
    · rename_i l
      obtain ⟨p, vs, rfl, r, al⟩ := ax.lst r1.st.sub
      refine ⟨p, vs, rfl, SqL.of r, fun q nq => c _ _ ?_⟩
      have := OpPost.list (K := X.K) (R := fun t => t = .ls l.reverse) r1.st.sub nq al.reverse rfl
      exact OpPost.res r1.st r1.drop r1.pu this fun t e => e ▸ w2
    · exact w2.elim
end
end DL

/-! Methods that only read: xs.count(i), xs.index(i). -/
namespace DL
open PySem PySem.Spec L2
section
variable {X : Cx} {name : Str} {id : String} {o b : Expr} {apos cpos : Pos} {pb : Bool} {tB : DTE} {k : D2}
def isLst (d : D) : Prop := match d with | .lst _ => True | _ => False
def dRdV (k : D2) (i : Nat) (tb : DTE) : DTE := fun G Q => (∃ t, G[i]? = some (some t) ∧ rdT t isLst) ∧ tb G fun G1 vb => rdW G1 vb fun y => match G1[i]? with
  | some (some t) => rdT t fun x => (isLst x ∧ k x y fun r => Q G1 (.t r))
  | _ => False
def MdR (X : Cx) (id : String) (k : D2) : Prop := MtR X id fun x xs H Q => ∃ y, xs = [y] ∧ rOf X.K k x y H Q
theorem de_rdV {i : Nat} (pa : PlainAttrs "list") (slot : Slot "list" name id) (hty : typeOf (.builtin id) = pure (.type "method_descriptor")) (hm : MdR X id k) (ha : PE X o (tVar i)) (hb : DE X pb b tB)
    (hbase : attributeBase o name X.env (eval o X.env) = eval o X.env := by rfl)
    (hfew : ((backTo cpos (starEach [b] X.env)).all (fun x => !x.1) && (backToKw cpos (keywordEach [] X.env)).all (fun x => x.1.isSome)
      && decide (([b] : List Expr).length + ([] : List Keyword).length + (if ([] : List Keyword).isEmpty then 0 else 1) < 30)) = true := by rfl)
    (hline : (apos.endLine == cpos.line) = true := by rfl) (hs : starEach [b] X.env = (false, eval b X.env) :: starEach [] X.env := by rfl) (hplain : (backTo cpos (starEach [] X.env)).any (·.1) = false := by rfl) :
    DE X false (.Call (.Attribute o name apos) [b] [] cpos) (dRdV k i tB) :=
  pe_imp (pe_bm pa slot hty hm ha (pa_cons hb pa_nil hs) hbase hfew hline hs hplain) fun σ H Q ⟨h, G, fp, Q', S, ⟨⟨t0, e0, l0⟩, w⟩, c⟩ => by
    obtain ⟨v, ev⟩ := S.env.has e0
    have ea0 : atE G i none = some t0 := by simp only [atE, e0]
    obtain ⟨x0, ax0, w0⟩ := OwnV.rd (k := isLst) S (.pk (i := i) (p := none) (v := v) (t := t0) ⟨v, ev, rfl⟩ ea0) (by simp only [rdW, ea0]; exact l0)
    have ty : tyV X.K "list" v H := by
      cases x0 <;> first | exact w0.elim | skip
      obtain ⟨p, vs, rfl, r, _⟩ := ax0.lst S.sub
      exact .inl ⟨rfl, vs, SqL.of r⟩
    refine ⟨v, ev, ty, h, G, fp, _, S, w, fun u H1 ⟨h1, G1, f1, vb, fvb, r1, w1⟩ => ?_⟩
    obtain ⟨y, ay, w2⟩ := r1.ov.rd r1.st w1
    split at w2
    · rename_i t et
      have ea : atE G1 i none = some t := by simp only [atE, et]
      obtain ⟨x, ax, w3⟩ := OwnV.rd (k := fun x => isLst x ∧ k x y fun r => Q' G1 (.t r)) r1.st (.pk (i := i) (p := none) (v := v) (t := t) ⟨v, ev, rfl⟩ ea) (by simp only [rdW, ea]; exact w2)
      exact ⟨u, rfl, h1, x, y, _, r1.st.sub, ax, ay, w3.2, fun v' H' o => c v' H' (by
        obtain ⟨h2, G2, f2, vl, fv, r, q⟩ := o.res r1.st r1.drop (fun z => by cases z) (pu := false) fun t q => q
        exact ⟨h2, G2, f2, vl, fv, r, q⟩)⟩
    · exact w2.elim
def cntD : D2 := fun x y R => match x, y with
  | .lst l, .int k => ∃ ns : List Int, l = ns.map .int ∧ R (.fz (.int (ns.count k)))
  | _, _ => False
def idxD : D2 := fun x y R => match x, y with
  | .lst l, .int k => ∃ ns : List Int, l = ns.map .int ∧ ∃ j : Nat, ns[j]? = some k ∧ (∀ m < j, ns[m]? ≠ some k) ∧ R (.fz (.int (j : Nat)))
  | _, _ => False
theorem mdr_of {r : V → List V → Hp → VK → Prop} (o : MtR X id r) (h : ∀ x y H Q, rOf X.K k x y H Q → r x [y] H Q) : MdR X id k := fun pins s σ H x xs v us Q I rx rs ⟨y, ey, q⟩ => by
  subst ey; exact o pins s σ H x [y] v us Q I rx rs (h _ _ _ _ q)
theorem count_ok : MdR X "list.count" cntD := mdr_of mt_lcount fun x y H Q ⟨h, dx, dy, R, sb, ax, ay, w, c⟩ => by
  unfold cntD at w
  split at w
  · obtain ⟨ns, rfl, w⟩ := w
    obtain ⟨p, vs, rfl, r, al⟩ := ax.lst sb
    rw [ats_ints al] at r
    exact ⟨p, ns, _, rfl, by rw [ay.int], SqL.of r, c _ H (.plain sb .int w)⟩
  · exact w.elim
theorem index_ok : MdR X "list.index" idxD := mdr_of mt_index fun x y H Q ⟨h, dx, dy, R, sb, ax, ay, w, c⟩ => by
  unfold idxD at w
  split at w
  · obtain ⟨ns, rfl, j, ej, no, w⟩ := w
    obtain ⟨p, vs, rfl, r, al⟩ := ax.lst sb
    rw [ats_ints al] at r
    rw [ay.int]
    refine ⟨p, ns.map V.int, _, j, _, rfl, rfl, SqL.of r, rfl, ?_, by rw [List.getElem?_map, ej]; rfl, ?_, fun m z hm hz => ?_, c _ H (.plain sb .int w)⟩
    · rw [List.all_map]; exact List.all_eq_true.mpr fun _ _ => rfl
    · simp [eqV]
    · have := no m hm
      rw [List.getElem?_map, Option.map_eq_some_iff] at hz
      obtain ⟨i, ei, rfl⟩ := hz
      rw [ei] at this
      simp only [eqV, beq_eq_false_iff_ne, ne_eq]
      exact fun q => this (by rw [q])
  · exact w.elim
end
end DL

/-! A call that reads its arguments and answers a bool: own lists stay its caller's. -/
namespace DL
open PySem PySem.Spec L2
def flatTs : List T → Option (List D)
  | [] => some []
  | .fz x :: r => (flatTs r).map (x :: ·)
  | .ls l :: r => (flatTs r).map (.lst l :: ·)
  | _ :: _ => none
theorem flat_owns {K : PySem.W.Frag} {h H h' : Hp} (s : Same h h') : ∀ {ts : List T} {vs : List V} {fp : List Addr} {ds : List D}, Owns K h H ts vs fp → flatTs ts = some ds → (∀ a ∈ fp, h' a = H a) → Ats K h' ds vs ∧ ∀ a ∈ fp, ∃ us, H a = some (.lst us)
  | _, _, _, _, .nil, e, _ => by cases e; exact ⟨.nil, fun _ m => (by cases m)⟩
  | t :: ts, _, _, _, .cons o r, e, k => by
    cases o with
    | fz a =>
      simp only [flatTs, Option.map_eq_some_iff] at e
      obtain ⟨ds, ed, rfl⟩ := e
      obtain ⟨q1, q2⟩ := flat_owns s r ed fun a m => k a (by simp [m])
      exact ⟨.cons (a.mono s) q1, by simpa using q2⟩
    | @ls a _ us n b c =>
      simp only [flatTs, Option.map_eq_some_iff] at e
      obtain ⟨ds, ed, rfl⟩ := e
      obtain ⟨q1, q2⟩ := flat_owns s r ed fun a m => k a (by simp [m])
      refine ⟨.cons (.lst ((k a (by simp)).trans b) (c.mono s)) q1, fun x m => ?_⟩
      simp only [List.cons_append, List.nil_append, List.mem_cons] at m
      rcases m with rfl | m
      · exact ⟨us, b⟩
      · exact q2 x m
    | dk _ _ _ => simp [flatTs] at e
    | dt _ _ _ => simp [flatTs] at e
    | ll _ _ _ => simp [flatTs] at e
    | dm _ _ _ => simp [flatTs] at e
    | ins _ _ _ _ _ => simp [flatTs] at e
def dCallB (n : Nat) (F : FS) (ta : DTA) : DTE := fun G Q => ta G fun G1 as => as.length = n ∧ match lendE G1 as with
  | some p => (match flatTs p.1 with | some ds => F (ds.map .fz) fun _ t => ∃ b, t = .fz (.bl b) ∧ Q G1 (.t (.fz (.bl b))) | none => False)
  | none => False
section
variable {X : Cx} {k j n : Nat} {x : Str} {F : FS} {p pos : Pos} {e : Expr} {es : List Expr} {ta : DTA} {pa : Bool}
theorem de_callB (f : Fn X.prog X.w X.K X.mg X.base k x n 0 F) (hgd : X.A.guards = some []) (hr : Room j X.A) (hk : k ≤ j) (hg : Gl X x) (ha : DA X pa (e :: es) ta)
    (hdb : (x == ("__debug__" : Str)) = false := by decide) (he : starEach (e :: es) X.env = (false, eval e X.env) :: starEach es X.env := by rfl) (hpl : (backTo pos (starEach es X.env)).any (·.1) = false := by rfl) :
    DE X false (.Call (.Name x p) (e :: es) [] pos) (dCallB n F ta) := by
  refine pe_imp (pe_g f hgd hr hk hg ha hdb he hpl) fun σ H Q ⟨h, G, fp, Q', S, w, c⟩ => ?_
  refine ⟨h, G, fp, _, S, w, fun vs H1 ⟨h1, G1, f1, as, S1, av, e1, p1, hl, w1⟩ => ?_⟩
  show spOf X.K n 0 F (vs ++ []) H1 Q C8.E0
  rw [List.append_nil]
  split at w1
  · rename_i pr ep
    obtain ⟨ts, Gr⟩ := pr
    split at w1
    · rename_i ds ed
      obtain ⟨fa, fr, oa, or, pm⟩ := lend_ok av S1.env ep
      have th := oa.there
      have hs : Same h1 (froz h1 H1 fa) := froz_same fun a m => (th a m).1
      obtain ⟨ad, li⟩ := flat_owns hs oa ed fun a m => froz_in m
      have sbp : Sub (froz h1 H1 fa) H1 := froz_sub S1.sub fun a m => (th a m).2
      refine ⟨by rw [← av.length]; exact hl, froz h1 H1 fa, ds.map .fz, [], _, sbp, ad.owns, .nil, w1, fun v H' h' outs t fo fv sb oo ot nd ex q => c v H' ?_⟩
      obtain ⟨b, rfl, q⟩ := q
      have inf : ∀ a, a ∈ f1 ↔ a ∈ fa ∨ a ∈ fr := fun a => by rw [← pm.mem_iff, List.mem_append]
      have out : ∀ a o, H1 a = some o → a ∉ fa → (∃ u, h' a = some u) → isDic o = true → ∃ u, h1 a = some u := fun a o eo na ⟨u, eu⟩ hd => by
        rcases ex.hn a u eu with z | z | z
        · rw [froz_out na] at z; exact ⟨u, z⟩
        · cases z
        · rcases z with z | ⟨us, z⟩
          · rw [eo] at z; cases z
          · rw [eo] at z; cases z; cases hd
      have keep : ∀ a ∈ f1, H' a = H1 a := fun a m => by
        obtain ⟨n1, o, eo⟩ := S1.env.there a m
        rw [eo]
        rcases ex.fr a o (by simp) eo with z | ⟨hd, _, u⟩
        · exact z
        · by_cases ma : a ∈ fa
          · obtain ⟨us, eu⟩ := li a ma
            rw [eo] at eu; cases eu; cases hd
          · obtain ⟨u, eu⟩ := out a o eo ma u hd
            rw [n1] at eu; cases eu
      have sbn : Sub h1 H' := fun a o eo => sb a o (ex.gh a o (hs a o eo))
      have ext : Ext h1 H1 f1 h1 H' f1 := ⟨Same.refl _, fun a o na eo => by
        rcases ex.fr a o (by simp) eo with z | ⟨hd, z, u⟩
        · exact .inl z
        · exact .inr ⟨hd, z, out a o eo (fun m => na ((inf a).mpr (.inl m))) u hd⟩, fun a m => .inl m, fun a o eo => .inl eo⟩
      have ev : v = .bl b := by cases ot with | fz a => cases a; rfl
      subst ev
      exact ⟨h1, G1, f1, .t (.fz (.bl b)), [], ⟨⟨sbn, S1.env.move (Same.refl _) keep (fun a m => (S1.env.there a m).1), S1.nd⟩, .t (.fz .bl), by simpa using S1.nd, by simpa using e1.trans ext, fun z => by cases z⟩, q⟩
    · exact w1.elim
  · exact w1.elim
end
end DL

/-! sorted(xs), xs a list of tuples of ints of any lengths. -/
namespace DL
open PySem PySem.Spec L2
/-- x before y -/
def lexI : List Int → List Int → Bool
  | [], [] => false
  | [], _ :: _ => true
  | _ :: _, [] => false
  | a :: r, b :: t => if a = b then lexI r t else decide (a < b)
theorem lexI_irrefl : ∀ x : List Int, lexI x x = false
  | [] => rfl
  | a :: r => by simp [lexI, lexI_irrefl r]
theorem lexI_asymm : ∀ x y : List Int, lexI x y = true → lexI y x = false
  | [], [], h => by cases h
  | [], _ :: _, _ => rfl
  | _ :: _, [], h => by cases h
  | a :: r, b :: t, h => by
    unfold lexI at h ⊢
    by_cases e : a = b
    · rw [if_pos e] at h; rw [if_pos e.symm]; exact lexI_asymm r t h
    · rw [if_neg e, decide_eq_true_eq] at h; rw [if_neg (fun z => e z.symm), decide_eq_false_iff_not]; omega
theorem lexI_tr : ∀ x y z : List Int, lexI x y = false → lexI y z = false → lexI x z = false
  | [], [], z, _, h => h
  | [], _ :: _, _, h, _ => by cases h
  | _ :: _, _, [], _, _ => rfl
  | _ :: _, [], _ :: _, _, h => by cases h
  | a :: r, b :: t, c :: u, h1, h2 => by
    unfold lexI at h1 h2 ⊢
    by_cases e1 : a = b
    · rw [if_pos e1] at h1
      by_cases e2 : b = c
      · rw [if_pos e2] at h2; rw [if_pos (e1.trans e2)]; exact lexI_tr r t u h1 h2
      · rw [if_neg e2] at h2; rw [if_neg (fun z => e2 (e1.symm.trans z)), e1]; exact h2
    · rw [if_neg e1, decide_eq_false_iff_not] at h1
      by_cases e2 : b = c
      · rw [if_neg (fun z => e1 (z.trans e2.symm)), decide_eq_false_iff_not]; omega
      · rw [if_neg e2, decide_eq_false_iff_not] at h2
        rw [if_neg (by omega), decide_eq_false_iff_not]; omega
theorem lexI_eq : ∀ x y : List Int, lexI x y = false → lexI y x = false → x = y
  | [], [], _, _ => rfl
  | [], _ :: _, h, _ => by cases h
  | _ :: _, [], _, h => by cases h
  | a :: r, b :: t, h1, h2 => by
    unfold lexI at h1 h2
    by_cases e : a = b
    · rw [if_pos e] at h1; rw [if_pos e.symm] at h2; rw [e, lexI_eq r t h1 h2]
    · rw [if_neg e, decide_eq_false_iff_not] at h1; rw [if_neg (fun z => e z.symm), decide_eq_false_iff_not] at h2; omega
open PyProof.Rows in
theorem lex_kat {prog : Program} {w : World} {A : Around} {s : Shared} : ∀ {xs ys : List Value} {ns ms : List Int} (i : Nat), IntsAre xs ns → IntsAre ys ms →
    PySem.W.KatLex prog w A true (decide (xs.length < ys.length)) (fun r s' => s' = s ∧ r = lexI ns ms) (xs.zip ys) i s
  | _, _, _, _, _, .nil, .nil => PySem.W.kat_nil ⟨rfl, rfl⟩
  | _, _, _, _, _, .nil, .cons _ _ _ => PySem.W.kat_nil ⟨rfl, rfl⟩
  | _, _, _, _, _, .cons _ _ _, .nil => PySem.W.kat_nil ⟨rfl, rfl⟩
  | _, _, _, _, i, .cons (vs := xs) (ns := ns) n t h1, .cons (vs := ys) (ns := ms) m t' h2 => by
    refine PySem.W.kat_cons (SeqAt.EqAt.int_int n t m t' prog w _ _ ?_)
    refine PySem.W.kat_go (fun e1 => ?_) (fun e1 => ?_)
    · have ex : n = m := by simpa using e1
      refine PySem.W.kat_yes ?_
      have ih := lex_kat (prog := prog) (w := w) (A := A) (s := s) (i + 1) h1 h2
      have e2 : lexI (n :: ns) (m :: ms) = lexI ns ms := by simp [lexI, ex]
      have e3 : decide ((Value.int n t :: xs).length < (Value.int m t' :: ys).length) = decide (xs.length < ys.length) := by simp
      rw [e2, e3]; exact ih
    · have ex : ¬ n = m := by simpa using e1
      have e2 : lexI (n :: ns) (m :: ms) = decide (n < m) := by simp [lexI, ex]
      rw [e2]
      refine PySem.W.kat_no ?_
      cases i with
      | zero => exact oneLt_int ⟨rfl, rfl⟩
      | succ i => exact PySem.W.kat_one _ _ (PyProof.Rows.lt_int ⟨rfl, rfl⟩)

open PyProof.Rows in
theorem firsts_n {h : Heap} : ∀ {vs : List Value} {k : Value → List Int}, (∀ v ∈ vs, TS.TupInts h v (k v) ∧ k v ≠ []) → ∃ fs, PySem.W.KatTups h vs fs ∧ fs.length = vs.length ∧ ∀ f, f ∈ fs → ∃ n t, f = Value.int n t
  | [], _, _ => ⟨[], PySem.W.KatTups.nil, rfl, fun f hf => by simp at hf⟩
  | v :: vs, k, x => by
    obtain ⟨fs, kk, hl, hi⟩ := firsts_n (vs := vs) (k := k) fun u hu => x u (List.mem_cons_of_mem _ hu)
    obtain ⟨⟨a, xs, rfl, ⟨o, ho, hc, n, hdt⟩, i⟩, hn⟩ := x v (List.mem_cons_self ..)
    obtain ⟨y, ys, e⟩ : ∃ y ys, xs.toList = y :: ys := by
      cases q : xs.toList with
      | nil =>
        rw [q] at i
        have l := i.length
        exact absurd (List.length_eq_zero_iff.mp (by rw [← l]; rfl)) hn
      | cons y ys => exact ⟨y, ys, rfl⟩
    obtain ⟨m, t, hy⟩ := i.all y (by rw [e]; exact List.mem_cons_self ..)
    refine ⟨y :: fs, PySem.W.KatTups.cons ho hc hdt ?_ kk, by simp [hl], ?_⟩
    · have z := congrArg (fun l : List Value => l[0]?) e
      simpa using z
    · intro f hf
      rcases List.mem_cons.mp hf with rfl | hf
      · exact ⟨m, t, hy⟩
      · exact hi f hf
theorem swo_I {α : Type} (k : α → List Int) : SrtO.Swo fun v u => lexI (k v) (k u) := ⟨fun x y h => lexI_asymm _ _ h, fun x y z h1 h2 => lexI_tr _ _ _ h2 h1⟩
open PyProof.Rows in
theorem tups_sortableO {prog : Program} {w : World} {A : Around} {s : Shared} {a : Addr} {vs : List Value} {k : Value → List Int} (h0 : 0 < vs.length) (hp : ∀ v ∈ vs, TS.TupInts s.heap v (k v) ∧ k v ≠ []) (ha : ∀ o, s.heap.get? a = some o → o.cls ≠ .type "tuple") :
    SrtO.SortableO prog w A s a vs fun v u => lexI (k v) (k u) := by
  intro h' keep
  have hp' : ∀ v ∈ vs, TS.TupInts h' v (k v) ∧ k v ≠ [] := fun v hm => ⟨(hp v hm).1.keeps fun b o e c => keep b o (fun z => by subst z; exact ha o e c) e, (hp v hm).2⟩
  obtain ⟨fs, h1, h2, h3⟩ := firsts_n hp'
  refine ⟨tuples' true, fun Q E hq => ?_, fun p q hm hm' => ?_⟩
  · refine PySem.W.kat_kind (T := .type "int") h1 (by omega) (fun f hm => ?_) (by rfl) ?_
    · obtain ⟨x, t, rfl⟩ := h3 f hm
      exact PySem.W.Looks.now
    · have e : (Value.type "int" != Value.type "tuple") = true := by first | decide +kernel | rfl | decide
      rw [e]
      exact hq
  · obtain ⟨⟨a1, xs, e1, ⟨o1, ho1, _, n1, hd1⟩, i1⟩, _⟩ := hp' _ hm
    obtain ⟨⟨a2, ys, e2, ⟨o2, ho2, _, n2, hd2⟩, i2⟩, _⟩ := hp' _ hm'
    show wpAny (model prog w) A (keyLt' (tuples' true) p.1 q.1) (fun r s' => s' = { s with heap := h' } ∧ r = lexI (k p.1) (k q.1)) (fun _ _ => False) { s with heap := h' }
    generalize k p.1 = ns at i1 ⊢
    generalize k q.1 = ms at i2 ⊢
    rw [e1, e2]
    refine PySem.W.kat_lt (s := { s with heap := h' }) ho1 hd1 ho2 hd2 ?_
    have := lex_kat (prog := prog) (w := w) (A := A) (s := { s with heap := h' }) 0 i1 i2
    simpa using this
def rSortedN (K : PySem.W.Frag) : List V → Hp → VK → Prop := fun vs H Q => ∃ (a : Addr) (xs : List V) (k : V → List Int), vs = [V.ref a] ∧ SqL K H a xs ∧ (∀ x ∈ xs, ∃ t, x = V.ref t ∧ H t = some (.tup ((k x).map V.int))) ∧ (2 ≤ xs.length → ∀ x ∈ xs, k x ≠ []) ∧
  ∀ ys p, SrtO.Srtd (fun x y => lexI (k x) (k y)) ys → SrtO.Stb (fun x y => lexI (k x) (k y)) ys xs → H p = none → Q (.ref p) (upd H p (.lst ys))
section
variable {X : Cx}
open PyProof.Rows in
theorem cr_sortedN : CallR X (.builtin "sorted") (rSortedN X.K) := by
  intro pins s σ H vs us Q I r h
  obtain ⟨a, xs, k, rfl, hs, hx, hne, q⟩ := h
  obtain ⟨its, rv, hl, hz⟩ := I.list hs
  obtain ⟨u, rfl, ru⟩ := vals1 r
  obtain rfl : u = Value.ref a := ru
  obtain ⟨e1, e2⟩ := refs_back rv fun x m => by
    obtain ⟨t, e, _⟩ := hx x m
    exact ⟨t, e⟩
  refine SrtO.sorted_ord (ltv := fun v u => lexI (k (backV v)) (k (backV u))) (swo_I fun v => k (backV v)) hl.isList (by rw [← rv.length]; exact hz) (fun h2 h₁ ad had kk => ?_) fun out h1 h2 => ?_
  · refine tups_sortableO (k := fun v => k (backV v)) (s := { s with heap := h₁ }) (by omega) (fun v hv => ?_) fun o e => ?_
    · obtain ⟨t, rfl⟩ := e2 v hv
      have hm : V.ref t ∈ xs := by rw [e1]; exact List.mem_map.mpr ⟨_, hv, rfl⟩
      obtain ⟨t', e, ht⟩ := hx _ hm
      cases e
      refine ⟨?_, hne (by rw [rv.length]; exact h2) _ hm⟩
      obtain ⟨its2, rv2, hT, _⟩ := I.tuple (SqT.of ht)
      have ti : TS.TupInts s.heap (.ref t) (k (V.ref t)) := ⟨t, its2.toArray, rfl, hT, by simpa using rv2.ints⟩
      exact ti.keeps fun b o e _ => (kk b o e).2
    · have e' : some o = some (seqObj "list" its.toArray 0) := e.symm.trans had
      cases e'
      intro c
      exact absurd (Value.type.inj c) (by decide)
  · have h3 : ∀ u ∈ out, ∃ a, u = Value.ref a := fun u hu => e2 u (h2.perm.mem_iff.mp hu)
    obtain ⟨n, hn⟩ := sortedAll_at s.heap its out.toArray
    have hb : SrtO.Stb (fun x y => lexI (k x) (k y)) (out.map backV) xs := by
      rw [e1]
      exact SrtO.Stb.map (swo_I k) backV h2
    refine ⟨.ref _, upd H (s.heap.objs.size + 1) (.lst (out.map backV)), I.laid (t' := s.toks) (fun _ _ => sortedAll_old) (Nat.le_succ _) ⟨?_, out, n, vals_back h3, hn⟩, rfl, q _ _ (SrtO.srtd_map h1) hb (I.hok.fresh (Nat.le_succ _))⟩
    rw [hb.len]
    exact hz
end

def tupI (ns : List Int) : D := .tup (ns.map .int)
theorem ats_tupsI {K : PySem.W.Frag} {h : Hp} : ∀ {ps : List (List Int)} {vs : List V}, Ats K h (ps.map tupI) vs → ∃ ts : List (Addr × List Int), vs = ts.map (fun t => V.ref t.1) ∧ ps = ts.map (·.2) ∧ ∀ t ∈ ts, h t.1 = some (.tup (t.2.map V.int))
  | [], _, .nil => ⟨[], rfl, rfl, fun _ m => nomatch m⟩
  | p :: r, _, .cons a ar => by
    obtain ⟨ts, e1, e2, e3⟩ := ats_tupsI ar
    cases a with
    | @tup a _ vs e r =>
      rw [ats_ints r] at e
      exact ⟨(a, p) :: ts, by rw [e1]; rfl, by rw [e2]; rfl, fun t m => by
        rcases List.mem_cons.mp m with rfl | m
        · exact e
        · exact e3 t m⟩
theorem tupsI_ats {K : PySem.W.Frag} {h : Hp} : ∀ {ts : List (Addr × List Int)}, (∀ t ∈ ts, h t.1 = some (.tup (t.2.map V.int))) → Ats K h ((ts.map (·.2)).map tupI) (ts.map fun t => V.ref t.1)
  | [], _ => .nil
  | t :: r, e => .cons (.tup (e t (by simp)) ints_ats) (tupsI_ats fun t m => e t (by simp [m]))
theorem key_ofI (ts : List (Addr × List Int)) (hs : ∀ t ∈ ts, ∀ u ∈ ts, t.1 = u.1 → t.2 = u.2) : ∃ k : V → List Int, ∀ t ∈ ts, k (V.ref t.1) = t.2 := by
  refine ⟨fun v => match v with | .ref a => ((ts.find? fun t => t.1 == a).map (·.2)).getD [] | _ => [], fun t m => ?_⟩
  show ((ts.find? fun u => u.1 == t.1).map (·.2)).getD [] = t.2
  cases q : ts.find? fun u => u.1 == t.1 with
  | none => exact absurd (List.find?_eq_none.mp q t m) (by simp)
  | some u =>
    have h1 := List.find?_some q
    have h2 := List.mem_of_find?_eq_some q
    exact hs u h2 t m (by simpa using h1)
theorem vint_inj {a b : List Int} (e : a.map V.int = b.map V.int) : a = b := by
  induction a generalizing b with
  | nil => cases b <;> simp at e ⊢
  | cons x r ih =>
    cases b with
    | nil => simp at e
    | cons y t =>
      simp only [List.map_cons, List.cons.injEq, V.int.injEq] at e
      rw [e.1, ih e.2]
def sortedND : DN := fun ds R => match ds with
  | [.lst l] => ∃ nss : List (List Int), l = nss.map tupI ∧ (2 ≤ nss.length → ∀ ns ∈ nss, ns ≠ []) ∧ ∀ nss' : List (List Int), nss'.Perm nss → nss'.Pairwise (fun a b => lexI b a = false) → R (.ls (nss'.map tupI))
  | _ => False
theorem sortedN_ok {X : Cx} : CaK X (.builtin "sorted") sortedND := by
  refine ca_of cr_sortedN fun xs H Q ⟨h, ds, R, sb, a, w, c⟩ => ?_
  unfold sortedND at w
  split at w
  · obtain ⟨nss, rfl, ne, w⟩ := w
    obtain ⟨v, rfl, a1⟩ := a.one
    obtain ⟨p, vs, rfl, r, al⟩ := a1.lst sb
    obtain ⟨ts, rfl, rfl, et⟩ := ats_tupsI al
    have eH : ∀ t ∈ ts, H t.1 = some (.tup (t.2.map V.int)) := fun t m => sb.tup (et t m)
    obtain ⟨k, hk⟩ := key_ofI ts fun t m u m2 e => by
      have e1 := et t m
      rw [e, et u m2] at e1
      simp only [Option.some.injEq, HO.tup.injEq] at e1
      exact (vint_inj e1).symm
    refine ⟨p, _, k, rfl, SqL.of r, fun x m => ?_, fun h2 x m => ?_, fun ys q srt stb nq => ?_⟩
    · obtain ⟨t, mt, rfl⟩ := List.mem_map.mp m
      exact ⟨t.1, rfl, by rw [hk t mt]; exact eH t mt⟩
    · obtain ⟨t, mt, rfl⟩ := List.mem_map.mp m
      rw [hk t mt]
      exact ne (by simpa using h2) _ (List.mem_map.mpr ⟨t, mt, rfl⟩)
    · obtain ⟨ts', pt, rfl⟩ := perm_map_inv stb.perm
      have et' : ∀ t ∈ ts', h t.1 = some (.tup (t.2.map V.int)) := fun t m => et t (pt.mem_iff.mp m)
      refine c _ _ (.list sb nq (tupsI_ats et') (w _ (pt.map _) ?_))
      refine List.pairwise_map.mpr ((List.pairwise_map.mp srt).imp_of_mem fun {t u} m1 m2 hh => ?_)
      have hh2 : lexI (k (V.ref u.1)) (k (V.ref t.1)) = false := hh
      rwa [hk t (pt.mem_iff.mp m1), hk u (pt.mem_iff.mp m2)] at hh2
  · exact w.elim
end DL

/-! len(set(t)), t a tuple of ints. -/
namespace DL
open PySem PySem.Spec L2
section
variable {X : Cx}
def tLenSetT (K : PySem.W.Frag) (ta : TE) : TE := fun σ H Q => ta σ H fun x H1 => ∃ (l : Addr) (ns : List Int), x = .ref l ∧ SqT K H1 l (ns.map V.int) ∧ ns.length ≤ 4000 ∧ ∀ ks : List Int, ks.Nodup → (∀ k, k ∈ ks ↔ k ∈ ns) → Q (.int (ks.length : Nat)) H1
open PyProof.Rows in
theorem pe_lenSetT {a : Expr} {ta : TE} {p p2 q pos : Pos} (hg : Gl X "len") (hm : X.mg "len" = none) (hg2 : Gl X "set") (hm2 : X.mg "set" = none) (ha : PE X a ta) (hc : X.calm = true)
    (na : starEach [a] X.env = (false, eval a X.env) :: starEach [] X.env := by rfl) : PE X (.Call (.Name "len" p) [.Call (.Name "set" p2) [a] [] q] [] pos) (tLenSetT X.K ta) := by
  refine ⟨fun pins s σ H Q I h => ?_⟩
  refine Call_ (ld_blt I hg hm boot_len ?_)
  refine PyProof.Rows.callWith_builtin1 (PyProof.Rows.args_cons ?_ rfl) rfl rfl
  refine Call_ (ld_blt I hg2 hm2 boot_set ?_)
  refine PyProof.Rows.callWith_type1 (PyProof.Rows.args_cons (thn (ha.run pins s σ H _ I h) fun v s1 ⟨x, H1, I1, r1, q1⟩ => PyProof.Rows.args_nil ?_) na) na rfl
  obtain ⟨l, ns, rfl, hq, hl, q1⟩ := q1
  cases r1
  obtain ⟨its, r, hT, hz⟩ := I1.tuple hq
  refine call_set_tupI ns (I1.ok.hd hc) hT (by simpa using r.ints) (by unfold scanBound; omega) fun h' tk c hS hcn hk => ?_
  refine PyProof.Rows.args_nil ?_
  obtain ⟨o, es, ep, t, ho, hex, hd, _, hnd, hS, hb, hf, hn, _, _⟩ := hS
  have I2 : Inv X pins σ H1 { s1 with heap := h', toks := tk } := I1.kept hk
  have q2 := q1 _ hnd fun k => by rw [← hS]; simp
  rw [List.length_map, Array.length_toList] at q2
  exact call_len_set ho hex hd hf (by omega) ⟨.int (es.size : Nat), H1, I2.tok _, ⟨_, rfl⟩, q2⟩
def dLenSet (te : DTE) : DTE := fun G Q => te G fun G1 v => rdW G1 v fun d => match d with
  | .tup l => ∃ ns : List Int, l = ns.map .int ∧ ns.length ≤ 4000 ∧ ∀ ks : List Int, ks.Nodup → (∀ k, k ∈ ks ↔ k ∈ ns) → Q G1 (.t (.fz (.int (ks.length : Nat))))
  | _ => False
theorem de_lenSet {a : Expr} {te : DTE} {pa : Bool} {p p2 q pos : Pos} (hg : Gl X "len") (hm : X.mg "len" = none) (hg2 : Gl X "set") (hm2 : X.mg "set" = none) (hc : X.calm = true) (ha : DE X pa a te)
    (na : starEach [a] X.env = (false, eval a X.env) :: starEach [] X.env := by rfl) : DE X pa (.Call (.Name "len" p) [.Call (.Name "set" p2) [a] [] q] [] pos) (dLenSet te) :=
  pe_imp (pe_lenSetT hg hm hg2 hm2 ha hc na) fun σ H Q ⟨h, G, fp, Q', S, w, c⟩ => by
    refine ⟨h, G, fp, _, S, w, fun v H1 p1 => ?_⟩
    obtain ⟨h1, G1, f1, va, fva, r1, w1⟩ := p1
    obtain ⟨x, ax, w2⟩ := r1.ov.rd r1.st w1
    split at w2
    · obtain ⟨ns, rfl, hl, w3⟩ := w2
      obtain ⟨p, vs, rfl, r, al⟩ := ax.tup r1.st.sub
      rw [ats_ints al] at r
      refine ⟨p, ns, rfl, SqT.of r, hl, fun ks nd hk => c _ _ ?_⟩
      have := OpPost.plain (K := X.K) (R := fun t => t = .fz (.int (ks.length : Nat))) (d := .int (ks.length : Nat)) r1.st.sub .int rfl
      exact OpPost.res r1.st r1.drop r1.pu this fun t e => e ▸ w3 ks nd hk
    · exact w2.elim
end
end DL

/-! Own classes: instances, their fields, their methods. -/
namespace DL
open PySem PySem.Spec L2
def clsOf (mg : Str → Option Value) (x : Str) : Addr := match mg x with | some (.ref a) => a | _ => 0
theorem clsOf_eq {mg : Str → Option Value} {x : Str} {C : Addr} (h : mg x = some (.ref C)) : clsOf mg x = C := by unfold clsOf; rw [h]
def putFl : List (Str × T) → Str → T → List (Str × T)
  | [], f, t => [(f, t)]
  | (g, x) :: r, f, t => if g = f then (g, t) :: r else (g, x) :: putFl r f t
theorem look_lookup {α : Type} : ∀ (l : List (Str × α)) (f : Str), l.lookup f = look l f
  | [], _ => rfl
  | (k, v) :: r, f => by
    by_cases h : k = f
    · subst h; simp [List.lookup, look]
    · have hb : (f == k) = false := beq_eq_false_iff_ne.mpr (Ne.symm h)
      simp only [List.lookup, hb, look, if_neg h]
      exact look_lookup r f
section
variable {K : PySem.W.Frag} {h H : Hp}
theorem OwnF.has {f : Str} {t : T} : ∀ {ts : List (Str × T)} {vs : List (Str × V)} {fp : List Addr}, OwnF K h H ts vs fp → look ts f = some t → ∃ v, look vs f = some v
  | _, _, _, .nil, e => by cases e
  | _, _, _, .cons (k := k) (v := v) a r, e => by
    simp only [look] at e ⊢
    by_cases hk : k = f
    · rw [if_pos hk]; exact ⟨v, rfl⟩
    · rw [if_neg hk] at e ⊢; exact OwnF.has r e
theorem OwnF.hasno {f : Str} : ∀ {ts : List (Str × T)} {vs : List (Str × V)} {fp : List Addr}, OwnF K h H ts vs fp → look ts f = none → look vs f = none
  | _, _, _, .nil, e => rfl
  | _, _, _, .cons (k := k) (v := v) a r, e => by
    simp only [look] at e ⊢
    by_cases hk : k = f
    · rw [if_pos hk] at e; cases e
    · rw [if_neg hk] at e ⊢; exact OwnF.hasno r e
theorem OwnF.len : ∀ {ts : List (Str × T)} {vs : List (Str × V)} {fp : List Addr}, OwnF K h H ts vs fp → ts.length = vs.length
  | _, _, _, .nil => rfl
  | _, _, _, .cons _ r => by simp [OwnF.len r]
theorem OwnF.put {f : Str} {t : T} {v : V} {fc : List Addr} : ∀ {ts : List (Str × T)} {vs : List (Str × V)} {fp : List Addr}, OwnF K h H ts vs fp → Own K h H t v fc → (fp ++ fc).Nodup →
    ∃ fp', OwnF K h H (putFl ts f t) (putF f v vs) fp' ∧ fp'.Nodup ∧ ∀ a ∈ fp', a ∈ fp ++ fc
  | _, _, _, .nil, o, nd => ⟨fc ++ [], .cons o .nil, by simpa using nd, fun a m => by simpa using m⟩
  | _, _, _, .cons (k := k) (f1 := f1) (f2 := f2) a r, o, nd => by
    rw [List.append_assoc] at nd
    obtain ⟨n1, n2, d1⟩ := List.nodup_append.mp nd
    by_cases hk : k = f
    · simp only [putFl, putF, if_pos hk]
      refine ⟨fc ++ f2, .cons o r, (List.perm_append_comm).nodup_iff.mp n2, fun x m => ?_⟩
      rcases List.mem_append.mp m with m | m <;> simp [m]
    · simp only [putFl, putF, if_neg hk]
      obtain ⟨fp', o', n', s'⟩ := OwnF.put (f := f) r o n2
      exact ⟨f1 ++ fp', .cons a o', List.nodup_append.mpr ⟨n1, n', fun x hx y hy => d1 x hx y (s' y hy)⟩, fun x m => by
        rcases List.mem_append.mp m with m | m
        · simp [m]
        · have := s' x m; simp at this ⊢; rcases this with q | q <;> simp [q]⟩
end
theorem nodup_repl {α : Type} {A X X' B F : List α} (nd : (A ++ X ++ B ++ F).Nodup) (n' : X'.Nodup) (s : ∀ x ∈ X', x ∈ X ∨ x ∈ F) : (A ++ X' ++ B).Nodup := by
  obtain ⟨h1, hF, d1⟩ := List.nodup_append.mp nd
  obtain ⟨h2, hB, d2⟩ := List.nodup_append.mp h1
  obtain ⟨hA, hX, d3⟩ := List.nodup_append.mp h2
  refine List.nodup_append.mpr ⟨List.nodup_append.mpr ⟨hA, n', fun x hx y hy e => ?_⟩, hB, fun x hx y hy e => ?_⟩
  · subst e
    rcases s x hy with q | q
    · exact d3 x hx x q rfl
    · exact d1 x (by simp [hx]) x q rfl
  · subst e
    rcases List.mem_append.mp hx with hx | hx
    · exact d2 x (by simp [hx]) x hy rfl
    · rcases s x hx with q | q
      · exact d2 x (by simp [q]) x hy rfl
      · exact d1 x (by simp [hy]) x q rfl
/-- a field of the instance in slot i takes a tree -/
theorem fset_ok {K : PySem.W.Frag} {h H : Hp} {G : En} {σ : L2.St} {fp fv : List Addr} {C : Addr} {i : Nat} {f : Str} {t : T} {v : V} {l : List (Str × T)} (S : Stt K h H G σ fp) (o : Own K h H t v fv) (nd : (fp ++ fv).Nodup) (eg : G[i]? = some (some (.ins C l))) :
    ∃ a dx m, σ[i]? = some (some (.ref a)) ∧ H a = some (.ins C dx m) ∧ l.length = m.length ∧ ∃ fp', Stt K h (upd H a (.ins C dx (putF f v m))) (G.set i (some (.ins C (putFl l f t)))) σ fp' ∧ Ext h H (fp ++ fv) h (upd H a (.ins C dx (putF f v m))) fp' := by
  obtain ⟨v0, ev⟩ := S.env.has eg
  obtain ⟨g1, gc, g2, ef, oc, put, _⟩ := S.env.slot eg ev
  subst ef
  cases oc with
  | @ins a dx _ _ m fl n n' b b' c =>
    have nd0 := nd
    rw [List.append_assoc] at nd
    obtain ⟨hh1, _, dd1⟩ := List.nodup_append.mp nd0
    obtain ⟨hh2, _, dd2⟩ := List.nodup_append.mp hh1
    obtain ⟨_, hX, dd3⟩ := List.nodup_append.mp hh2
    obtain ⟨na, hX2⟩ := List.nodup_cons.mp hX
    obtain ⟨nx, hX3⟩ := List.nodup_cons.mp hX2
    have hF : fv.Nodup := (List.nodup_append.mp nd0).2.1
    have ndl : (fl ++ fv).Nodup := List.nodup_append.mpr ⟨hX3, hF, fun x hx y hy => dd1 x (by simp [hx]) y hy⟩
    obtain ⟨fl', c', nd', sb⟩ := c.put (f := f) o ndl
    have na' : a ∉ fl' := fun z => by
      rcases List.mem_append.mp (sb a z) with q | q
      · exact na (by simp [q])
      · exact dd1 a (by simp) a q rfl
    have nx' : dx ∉ fl' := fun z => by
      rcases List.mem_append.mp (sb dx z) with q | q
      · exact nx q
      · exact dd1 dx (by simp) dx q rfl
    have adx : dx ≠ a := fun z => na (by simp [z])
    have nX' : (a :: dx :: fl').Nodup := List.nodup_cons.mpr ⟨by simp only [List.mem_cons, not_or]; exact ⟨fun z => adx z.symm, na'⟩, List.nodup_cons.mpr ⟨nx', nd'⟩⟩
    have sX : ∀ x ∈ a :: dx :: fl', x ∈ a :: dx :: fl ∨ x ∈ fv := fun x mx => by
      rcases List.mem_cons.mp mx with rfl | mx
      · exact .inl (by simp)
      · rcases List.mem_cons.mp mx with rfl | mx
        · exact .inl (by simp)
        · rcases List.mem_append.mp (sb x mx) with q | q
          · exact .inl (by simp [q])
          · exact .inr q
    have ndn := nodup_repl nd0 nX' sX
    refine ⟨a, dx, m, ev, b, c.len, g1 ++ (a :: dx :: fl') ++ g2, ⟨fun x u e => ?_, ?_, ndn⟩, ⟨Same.refl h, fun x u mx e => .inl ?_, fun x mx => .inl ?_, fun x u e => .inl e⟩⟩
    · rw [upd_ne (fun z => by subst z; rw [n] at e; cases e)]; exact S.sub x u e
    · have oth : ∀ x ∈ g1 ++ g2, upd H a (.ins C dx (putF f v m)) x = H x ∧ h x = none := fun x mx => by
        refine ⟨upd_ne fun z => ?_, (S.env.there x (by simp at mx ⊢; rcases mx with q | q <;> simp [q])).1⟩
        subst z
        rcases List.mem_append.mp mx with q | q
        · exact dd3 x q x (by simp) rfl
        · exact dd2 x (by simp) x q rfl
      refine put h _ _ _ (Same.refl h) oth (.ins n n' upd_same (by rw [upd_ne adx]; exact b') (c'.move (Same.refl h) (fun x mx => upd_ne fun z => na' (z ▸ mx)) fun x mx => ?_))
      exact (c'.there x mx).1
    · rw [upd_ne (fun z => mx (by simp [z]))]; exact e
    · simp only [List.append_assoc, List.mem_append] at mx ⊢
      rcases mx with q | q | q
      · exact .inl q
      · rcases sX x q with r | r
        · exact .inr (.inl r)
        · exact .inr (.inr (.inr r))
      · exact .inr (.inr (.inl q))
/-! ### fields -/
def dFld (C : Addr) (i : Nat) (f : Str) : DTE := fun G Q => match G[i]? with
  | some (some (.ins C' l)) => C' = C ∧ (match look l f with
    | some (.fz d) => Q G (.t (.fz d))
    | some _ => Q G (.pk i (some (.fd f)))
    | none => False)
  | _ => False
def fputW (C : Addr) (i : Nat) (f : Str) (k : En → Prop) (G : En) (t : T) : Prop := match G[i]? with
  | some (some (.ins C' l)) => C' = C ∧ l.length < 900 ∧ k (G.set i (some (.ins C (putFl l f t))))
  | _ => False
/-- a field takes a thing of its own, else what is frozen -/
def dFPut (C : Addr) (i : Nat) (f : Str) (te : DTE) : DTS := fun Ds G => te G fun G1 v => match v with
  | .t t => fputW C i f Ds.nx G1 t
  | .pk j p => fzW G1 (.pk j p) fun G2 d => fputW C i f Ds.nx G2 (.fz d)
/-- .. frozen always -/
def dFPutZ (C : Addr) (i : Nat) (f : Str) (te : DTE) : DTS := fun Ds G => te G fun G1 v => fzW G1 v fun G2 d => fputW C i f Ds.nx G2 (.fz d)
structure Fld (K : PySem.W.Frag) (mg : Str → Option Value) (x f : Str) : Prop where
  ex : ∃ C, mg x = some (.ref C) ∧ Cls K C ∧ NoAttr K C f
section
variable {X : Cx} {pa : Bool} {m : Nat} {e value : Expr} {te : DTE} {pos pos' : Pos} {i : Nat} {x f : Str}
theorem de_fld (F : Fld X.K X.mg x f) (p : PE X e (tVar i)) (hb : attributeBase e f X.env (eval e X.env) = eval e X.env := by rfl) : DE X true (.Attribute e f pos) (dFld (clsOf X.mg x) i f) := by
  obtain ⟨C, hm, c, n⟩ := F.ex
  rw [clsOf_eq hm]
  refine pe_imp (pe_fld p hb) fun σ H Q ⟨h, G, fp, Q', S, w, k⟩ => ?_
  unfold dFld at w
  split at w
  · rename_i C' l eg
    obtain ⟨rfl, w⟩ := w
    obtain ⟨v, ev⟩ := S.env.has eg
    obtain ⟨f1, fc, f2, ef, o, _⟩ := S.env.slot eg ev
    cases o with
    | @ins a dx _ _ m fl n1 n2 b b' cf =>
      have key : ∀ t, look l f = some t → ∃ u, look m f = some u := fun t et => cf.has et
      split at w
      · rename_i d ed
        obtain ⟨u, eu⟩ := key _ ed
        obtain ⟨q1, qc, q2, _, oz, _⟩ := cf.at ed eu
        cases oz with
        | fz ad => exact ⟨_, ev, a, _, dx, m, u, rfl, b, c, n, by rw [look_lookup]; exact eu, k _ _ ⟨h, G, fp, _, [], res_const S ad, w⟩⟩
      · rename_i t _ et
        obtain ⟨u, eu⟩ := key _ et
        refine ⟨_, ev, a, _, dx, m, u, rfl, b, c, n, by rw [look_lookup]; exact eu, k _ _ ⟨h, G, fp, _, [], ⟨S, .pk (t := t) ⟨_, ev, (⟨a, rfl, _, dx, m, b, eu⟩ : Phys H (.fd f) _ _)⟩ ?_, by simpa using S.nd, by simpa using Ext.refl h H fp, fun _ => ⟨rfl, rfl, fun _ _ => rfl⟩⟩, w⟩⟩
        simp [atE, eg, T.kid, et]
      · exact w.elim
  · exact w.elim
theorem fput_end {K : PySem.W.Frag} {C : Addr} {σ : L2.St} {h H h1 H1 : Hp} {G1 : En} {fp f1 fv : List Addr} {t : T} {v : V} {Ds : DEnds} {D : Ends} (hN : Cls K C) (hA : NoAttr K C f) (S : Stt K h1 H1 G1 σ f1) (o : Own K h1 H1 t v fv) (nd : (f1 ++ fv).Nodup) (ex : Ext h H fp h1 H1 (f1 ++ fv))
    (w : fputW C i f Ds.nx G1 t) (kn : ∀ σ' H', NPost K (List.take m) σ h H fp Ds.nx σ' H' → D.nx σ' H') :
    ∃ v0, σ[i]? = some (some v0) ∧ ∃ a C dx fs, v0 = .ref a ∧ H1 a = some (.ins C dx fs) ∧ Cls K C ∧ NoAttr K C f ∧ fs.length < 1000 ∧ D.nx σ (upd H1 a (.ins C dx (putF f v fs))) := by
  unfold fputW at w
  split at w
  · rename_i C' l eg
    obtain ⟨rfl, hl, w⟩ := w
    obtain ⟨a, dx, fs, ev, ea, len, fp', S', ex'⟩ := fset_ok (f := f) S o nd eg
    exact ⟨_, ev, a, _, dx, fs, rfl, ea, hN, hA, by omega, kn _ _ ⟨h1, _, fp', S', ex.trans ex', rfl, w⟩⟩
  · exact w.elim
theorem ds_fput {o : Expr} (F : Fld X.K X.mg x f) (p : PE X o (tVar i)) (he : DE X pa value te) (hs : swapsWith value (some (.Attribute o f pos')) pos.line X.env = pure false := by rfl) : DS X m (.Assign [.Attribute o f pos'] value pos) (dFPut (clsOf X.mg x) i f te) := by
  obtain ⟨C, hm, c, n⟩ := F.ex
  rw [clsOf_eq hm]
  refine ps_imp (ps_fld p he hs) fun D σ H ⟨h, G, fp, Ds, S, w, kn, kr⟩ => ?_
  refine ⟨h, G, fp, _, S, w, fun v H1 ⟨h1, G1, f1, va, fva, r1, w1⟩ => ?_⟩
  cases va with
  | t t =>
    cases r1.ov with
    | t o => exact fput_end c n r1.st o r1.nd r1.ex w1 kn
  | pk j p =>
    have w1 : fzW G1 (.pk j p) (fun G2 d => fputW C i f Ds.nx G2 (.fz d)) := w1
    obtain ⟨h2, G2, f2, d, S2, a2, e2, q⟩ := r1.fz w1
    exact fput_end c n S2 (.fz a2) (by simpa using S2.nd) (by simpa using e2) q kn
theorem ds_fputZ {o : Expr} (F : Fld X.K X.mg x f) (p : PE X o (tVar i)) (he : DE X pa value te) (hs : swapsWith value (some (.Attribute o f pos')) pos.line X.env = pure false := by rfl) : DS X m (.Assign [.Attribute o f pos'] value pos) (dFPutZ (clsOf X.mg x) i f te) := by
  obtain ⟨C, hm, c, n⟩ := F.ex
  rw [clsOf_eq hm]
  refine ps_imp (ps_fld p he hs) fun D σ H ⟨h, G, fp, Ds, S, w, kn, kr⟩ => ?_
  refine ⟨h, G, fp, _, S, w, fun v H1 ⟨h1, G1, f1, va, fva, r1, w1⟩ => ?_⟩
  obtain ⟨h2, G2, f2, d, S2, a2, e2, q⟩ := r1.fz w1
  exact fput_end c n S2 (.fz a2) (by simpa using S2.nd) (by simpa using e2) q kn
theorem ds_retN {st : Pos} : DS X m (.Return none st) (fun Ds G => Ds.rt G (.t (.fz .non))) := by
  refine ps_imp ps_retN fun D σ H ⟨h, G, fp, Ds, S, w, kn, kr⟩ => ?_
  exact kr .non H ⟨h, G, fp, σ, _, [], S, .t (.fz .non), by simpa using S.nd, by simpa using Ext.refl h H fp, rfl, w⟩
end
def dRetN : DTS := fun Ds G => Ds.rt G (.t (.fz .non))
/-! ### methods -/
def Mth (P : Program) (w : World) (K : PySem.W.Frag) (mg : Str → Option Value) (base : Heap) (k : Nat) (x m : Str) (n : Nat) (F : FS) : Prop :=
  ∃ (C f : Addr) (fd : FuncData) (ps : List Str), mg x = some (.ref C) ∧ Cls K C ∧ Meth K C m f ∧ FnG P w K mg base k f fd ps (spOf K n 1 F) ∧ Binds K fd ps []
def Ini (P : Program) (w : World) (K : PySem.W.Frag) (mg : Str → Option Value) (base : Heap) (k : Nat) (x : Str) (n : Nat) (F : FS) : Prop :=
  ∃ (C f : Addr) (fd : FuncData) (ps : List Str), mg x = some (.ref C) ∧ Mk K C f ∧ FnG P w K mg base k f fd ps (spOf K n 1 F) ∧ Binds K fd ps []
def dMth (C : Addr) (i : Nat) (m : Str) (n : Nat) (F : FS) (ta : DTA) : DTE := fun G Q => (match G[i]? with | some (some (.ins C' l)) => C' = C ∧ look l m = none | _ => False) ∧ dCall n F (dALend i ta) G Q
def dMake (C : Addr) (n : Nat) (F : FS) (ta : DTA) : DTE := fun G Q => ta G fun G1 as => withD as fun ds => ds.length + 1 = n ∧ F (.ins C [] :: ds.map .fz) fun outs t => (match outs with
  | [some t1] => t = .fz .non ∧ Q G1 (.t t1)
  | _ => False)
section
variable {X : Cx} {k j n i : Nat} {x m : Str} {F : FS} {pa : Bool} {ta : DTA} {o e : Expr} {es : List Expr} {pos p apos : Pos}
theorem pe_methG {C f : Addr} {fd : FuncData} {ps : List Str} {sp : Sp} {tv : TE} {t : TA} {pl : Sem Bool} (he : PE X o tv) (c : Cls X.K C) (hm : Meth X.K C m f) (F : FnG X.prog X.w X.K X.mg X.base k f fd ps sp) (hgd : X.A.guards = some []) (hr : Room k X.A) (hb : Binds X.K fd ps []) (ha : PA X (e :: es) t)
    (hst : starEach (e :: es) X.env = (false, eval e X.env) :: starEach es X.env := by rfl) (hpl : (backTo pos (starEach es X.env)).any (·.1) = false := by rfl)
    (ht : eval (.Call (.Attribute o m apos) (e :: es) [] pos) X.env = (do
      let ov ← eval o X.env
      standAt apos.atName
      let (f, first) ← holding [ov] (getMethod ov m pl)
      callWith pos f first (backTo pos (starEach (e :: es) X.env)) (backToKw pos (keywordEach [] X.env))) := by rfl) :
    PE X (.Call (.Attribute o m apos) (e :: es) [] pos) (tMeth C m sp [] C8.E0 tv t) := by
  refine ⟨fun pins s σ H Q I h => ?_⟩
  refine PySem.W.methodCall_KW (pl := pl) (thn (he.run pins s σ H _ I h) fun u s1 ⟨x, H1, I1, rx, a, dx, fs, ex, ea, l, q⟩ => ?_) ht
  subst ex
  obtain rfl : u = Value.ref a := rx
  refine getmeth_ok I1 ea c hm l ?_
  refine PySem.W.callWith_K (first := [.ref a]) (h₀ := X.base) I.ok.mod.kin hm.kp (thn (ha.run pos pins s1 σ H1 _ I1 q) fun us s2 ⟨vs, H2, I2, r, q2⟩ => ⟨I2.kIn, ?_⟩) hst hpl
  have q2 : sp (.ref a :: (vs ++ [])) H2 Q C8.E0 := q2
  rw [List.append_nil] at q2
  exact runG (us := .ref a :: us) (vs := .ref a :: vs) F hgd hr hb I2 (.cons rfl r) q2
theorem pe_methG0 {C f : Addr} {fd : FuncData} {ps : List Str} {sp : Sp} {tv : TE} {pl : Sem Bool} (he : PE X o tv) (c : Cls X.K C) (hm : Meth X.K C m f) (F : FnG X.prog X.w X.K X.mg X.base k f fd ps sp) (hgd : X.A.guards = some []) (hr : Room k X.A) (hb : Binds X.K fd ps [])
    (ht : eval (.Call (.Attribute o m apos) [] [] pos) X.env = (do
      let ov ← eval o X.env
      standAt apos.atName
      let (f, first) ← holding [ov] (getMethod ov m pl)
      callWith pos f first (backTo pos (starEach [] X.env)) (backToKw pos (keywordEach [] X.env))) := by rfl) :
    PE X (.Call (.Attribute o m apos) [] [] pos) (tMeth C m sp [] C8.E0 tv tNil) := by
  refine ⟨fun pins s σ H Q I h => ?_⟩
  refine PySem.W.methodCall_KW (pl := pl) (thn (he.run pins s σ H _ I h) fun u s1 ⟨x, H1, I1, rx, a, dx, fs, ex, ea, l, q⟩ => ?_) ht
  subst ex
  obtain rfl : u = Value.ref a := rx
  refine getmeth_ok I1 ea c hm l ?_
  exact PySem.W.callWith_K0 (first := [.ref a]) I1.kIn hm.kp (runG (us := [.ref a]) (vs := [.ref a]) F hgd hr hb I1 (.cons rfl .nil) q)
theorem ins_slot {K : PySem.W.Frag} {h H : Hp} {G : En} {σ : L2.St} {fp : List Addr} {C : Addr} (S : Stt K h H G σ fp) (w : match G[i]? with | some (some (.ins C' l)) => C' = C ∧ look l m = none | _ => False) :
    ∃ v, σ[i]? = some (some v) ∧ ∃ a dx fs, v = .ref a ∧ H a = some (.ins C dx fs) ∧ fs.lookup m = none := by
  split at w
  · rename_i C' l eg
    obtain ⟨rfl, w⟩ := w
    obtain ⟨v, ev⟩ := S.env.has eg
    obtain ⟨f1, fc, f2, ef, o, _⟩ := S.env.slot eg ev
    cases o with
    | @ins a dx _ _ fs fl n1 n2 b b' cf => exact ⟨_, ev, a, dx, fs, rfl, b, by rw [look_lookup]; exact cf.hasno w⟩
  · exact w.elim
theorem de_mth {pl : Sem Bool} (f : Mth X.prog X.w X.K X.mg X.base k x m n F) (hgd : X.A.guards = some []) (hr : Room j X.A) (hk : k ≤ j) (ho : PE X o (tVar i)) (ha : DA X pa (e :: es) ta)
    (hst : starEach (e :: es) X.env = (false, eval e X.env) :: starEach es X.env := by rfl) (hpl : (backTo pos (starEach es X.env)).any (·.1) = false := by rfl)
    (ht : eval (.Call (.Attribute o m apos) (e :: es) [] pos) X.env = (do
      let ov ← eval o X.env
      standAt apos.atName
      let (f, first) ← holding [ov] (getMethod ov m pl)
      callWith pos f first (backTo pos (starEach (e :: es) X.env)) (backToKw pos (keywordEach [] X.env))) := by rfl) :
    DE X false (.Call (.Attribute o m apos) (e :: es) [] pos) (dMth (clsOf X.mg x) i m n F ta) := by
  obtain ⟨C, fa, fd, ps, hm, c, me, Fg, b⟩ := f
  rw [clsOf_eq hm]
  refine pe_imp (pe_methG (pl := pl) ho c me Fg hgd (hr.mono hk) b ha hst hpl ht) fun σ H Q ⟨h, G, fp, Q', S, ⟨w0, ⟨t, eg⟩, w⟩, cc⟩ => ?_
  obtain ⟨v, ev, a, dx, fs, ea, hH, hl⟩ := ins_slot S w0
  refine ⟨v, ev, a, dx, fs, ea, hH, hl, h, G, fp, _, S, w, fun vs H1 ⟨h1, G1, f1, as, S1, av, e1, p1, hn, w1⟩ => ?_⟩
  show spOf X.K n 1 F (v :: (vs ++ [])) H1 Q C8.E0
  rw [List.append_nil]
  exact call_end S1 (.sl ev av) e1 hn w1 cc
theorem de_mth0 {pl : Sem Bool} (f : Mth X.prog X.w X.K X.mg X.base k x m n F) (hgd : X.A.guards = some []) (hr : Room j X.A) (hk : k ≤ j) (ho : PE X o (tVar i))
    (ht : eval (.Call (.Attribute o m apos) [] [] pos) X.env = (do
      let ov ← eval o X.env
      standAt apos.atName
      let (f, first) ← holding [ov] (getMethod ov m pl)
      callWith pos f first (backTo pos (starEach [] X.env)) (backToKw pos (keywordEach [] X.env))) := by rfl) :
    DE X false (.Call (.Attribute o m apos) [] [] pos) (dMth (clsOf X.mg x) i m n F dNil) := by
  obtain ⟨C, fa, fd, ps, hm, c, me, Fg, b⟩ := f
  rw [clsOf_eq hm]
  refine pe_imp (pe_methG0 (pl := pl) ho c me Fg hgd (hr.mono hk) b ht) fun σ H Q ⟨h, G, fp, Q', S, ⟨w0, ⟨t, eg⟩, hn, w⟩, cc⟩ => ?_
  obtain ⟨v, ev, a, dx, fs, ea, hH, hl⟩ := ins_slot S w0
  refine ⟨v, ev, a, dx, fs, ea, hH, hl, ?_⟩
  show spOf X.K n 1 F (v :: ([] ++ [])) H Q C8.E0
  exact call_end S (.sl ev .nil) (Ext.refl h H fp) hn w cc
theorem run_makeG {C f : Addr} {fd : FuncData} {ps : List Str} {sp : Sp} {pins : List (Addr × Obj)} {σ : L2.St} {H : Hp} {s : Shared} {Q : VK} {us : List Value} {vs : List V} (M : Mk X.K C f) (F : FnG X.prog X.w X.K X.mg X.base k f fd ps sp) (hgd : X.A.guards = some []) (hr : Room (k + 1) X.A) (hb : Binds X.K fd ps [])
    (I : Inv X pins σ H s) (r : Vals vs us)
    (h : ∀ x dx, H x = none → H dx = none → dx ≠ x → sp (.ref x :: vs) (upd (upd H dx (.own x)) x (.ins C dx [])) (fun v H2 => v = .non ∧ Q (.ref x) H2) C8.E0) :
    wpAny (model X.prog X.w) X.A (call (.ref C) us) (EP X pins σ Q) X.xe s := by
  have hq := h (s.heap.objs.size + 1) s.heap.objs.size (I.hok.fresh (Nat.le_succ _)) (I.hok.fresh (Nat.le_refl _)) (Nat.ne_of_lt (Nat.lt_succ_self _))
  have I2 := Inv.made (C := C) I
  have r2 : Vals (V.ref (s.heap.objs.size + 1) :: vs) (Value.ref (s.heap.objs.size + 1) :: us) := .cons rfl r
  have hl : (Value.ref (s.heap.objs.size + 1) :: us ++ []).length = ps.length := by
    have e := r2.length
    rw [F.len _ _ _ _ hq] at e
    rw [List.append_nil]
    exact e.symm
  have bd := hb _ (Value.ref (s.heap.objs.size + 1) :: us) I2.kIn hl
  rw [List.append_nil] at bd
  refine wpAny_call (make_map (f := f) I.kIn M.makes M.init (beq_iff_eq.mp M.fn) (codeAny_mono (F.run _ X.stack _ _ ⟨Value.ref (s.heap.objs.size + 1) :: us, []⟩ (Value.ref (s.heap.objs.size + 1) :: us) _ _ C8.E0 hgd (hr.make C us [])
    (I2.env0.make C us []) bd r2 hq) fun r s' hq' => ?_))
  match r, hq' with
  | .error e, hq' => exact False.elim hq'
  | .ok (.ret u), hq' =>
    obtain ⟨v, H', I3, rv, ev, q3⟩ := I2.after hq'
    subst ev
    exact ⟨rv, ⟨V.ref (s.heap.objs.size + 1), H', I3, rfl, q3⟩⟩
  | .ok .next, hq' => exact False.elim hq'
  | .ok .brk, hq' => exact False.elim hq'
  | .ok .cont, hq' => exact False.elim hq'
theorem de_make (f : Ini X.prog X.w X.K X.mg X.base k x n F) (hgd : X.A.guards = some []) (hr : Room j X.A) (hk : k + 1 ≤ j) (hg : Gl X x) (ha : DA X pa (e :: es) ta)
    (hdb : (x == ("__debug__" : Str)) = false := by decide) (he : starEach (e :: es) X.env = (false, eval e X.env) :: starEach es X.env := by rfl) (hpl : (backTo pos (starEach es X.env)).any (·.1) = false := by rfl) :
    DE X false (.Call (.Name x p) (e :: es) [] pos) (dMake (clsOf X.mg x) n F ta) := by
  obtain ⟨C, fa, fd, ps, hm, M, Fg, b⟩ := f
  rw [clsOf_eq hm]
  refine ⟨fun pins s σ H Q I ⟨h, G, fp, Q', S, w, cc⟩ => ?_⟩
  refine wpAny_Call_Name_kw (ld_glob I hg hm ?_ hdb)
  refine PySem.W.callWith_K (h₀ := X.base) I.ok.mod.kin M.kp (thn (ha.run pos pins s σ H (fun vs H1 => ∀ x dx, H1 x = none → H1 dx = none → dx ≠ x → spOf X.K n 1 F (.ref x :: vs) (upd (upd H1 dx (.own x)) x (.ins C dx [])) (fun v H2 => v = .non ∧ Q (.ref x) H2) C8.E0) I ?_) fun us s1 ⟨vs, H1, I1, r, q⟩ => ⟨I1.kIn, run_makeG M Fg hgd (hr.mono hk) b I1 r q⟩) he hpl
  refine ⟨h, G, fp, _, S, w, fun vs H1 ⟨h1, G1, f1, as, S1, av, e1, p1, w1⟩ y dx ny ndx ne => ?_⟩
  obtain ⟨ds, ed, hl, w2⟩ := withD_of w1
  have ad := avD_at av ed
  have fy : h1 y = none := by
    cases q : h1 y with
    | none => rfl
    | some u => obtain ⟨z, ez⟩ := S1.sub.there q; rw [ny] at ez; cases ez
  have fdx : h1 dx = none := by
    cases q : h1 dx with
    | none => rfl
    | some u => obtain ⟨z, ez⟩ := S1.sub.there q; rw [ndx] at ez; cases ez
  have sm : Same H1 (upd (upd H1 dx (.own y)) y (.ins C dx [])) := fun a u ea => by
    rw [upd_ne (fun z => by subst z; rw [ny] at ea; cases ea), upd_ne (fun z => by subst z; rw [ndx] at ea; cases ea)]; exact ea
  have ex0 : Ext h1 H1 [] h1 (upd (upd H1 dx (.own y)) y (.ins C dx [])) [y, dx] := ⟨Same.refl h1, fun a u _ ea => .inl (sm a u ea), fun a ma => by
    simp only [List.mem_cons, List.not_mem_nil, or_false] at ma
    rcases ma with rfl | rfl
    · exact .inr ny
    · exact .inr ndx, fun a u ea => .inl ea⟩
  refine ⟨by rw [List.length_cons, ← ad.length]; exact hl, h1, _, [y, dx] ++ [], _, S1.sub.trans (Sub.of sm), .cons (.ins fy fdx upd_same (by rw [upd_ne ne]; exact upd_same) .nil) ad.owns, by simp [ne.symm], w2, fun v H' h' outs t fo fv sb oo ot nd ex q => ?_⟩
  split at q
  · rename_i t1
    obtain ⟨rfl, q⟩ := q
    cases ot with
    | fz a0 =>
      cases a0
      refine ⟨rfl, cc _ H' ?_⟩
      cases oo with
      | so o1 o2 =>
        cases o2
        rw [List.append_nil] at nd ex
        have ex1 := ex0.trans (by simpa using ex)
        obtain ⟨or', nd2, ex2⟩ := call_ext S1 S1.env (by simp) ex1 (by simpa using nd)
        exact ⟨h', G1, f1, .t t1, _, ⟨⟨sb, or', S1.nd⟩, .t o1, by simpa using nd2, e1.trans (by simpa using ex2), fun z => by cases z⟩, q⟩
  · exact q.elim
end
section
variable {P : Program} {w : World} {K : PySem.W.Frag} {mg : Str → Option Value} {base : Heap}
open PyProof.Rows in
theorem mth_mk {x m qual : Str} {C : Addr} {st : Stmt} {f : Addr} {fd : FuncData} {N ps : List Str} {k n : Nat} {F : FS} {body : DTS} (hm : mg x = some (.ref C)) (c : Cls K C) (me : Meth K C m f) (Fd : C8.Fun K m qual st f fd) (b : Binds K fd ps []) (S : FnScope N ps (C8.fnScope st)) (hn : ps.length = n) (h1 : 1 ≤ n)
    (d : ∀ (cdv : Value) (A : Around) (outer : List Env) (s : Shared) (H : Hp) (E : XK), A.guards = some [] → Room k (A.deeper (envOfC qual (C8.fnScope st) s.heap.objs.size f cdv)) → DSs (cxOf C8.CX0 P w K mg base N qual (C8.fnScope st) f cdv A outer s H E).nox 1 (C8.fnBody st) body)
    (law : ∀ ts R, ts.length = n → F ts R → body ⟨fun G => R (G.take 1) (.fz .non), retW 1 R⟩ (ts.map some ++ List.replicate (N.length - n) none)) : Mth P w K mg base (k + 1) x m n F :=
  ⟨C, f, fd, ps, hm, c, me, fnG_of Fd S (fun vs H Q E sp => sp.1.trans hn.symm) fun cdv A outer s H vs Q E hg hr sp => body_ok rfl h1 (d cdv A outer s H E hg hr) law sp, b⟩
open PyProof.Rows in
theorem ini_mk {x qual : Str} {C : Addr} {st : Stmt} {f : Addr} {fd : FuncData} {N ps : List Str} {k n : Nat} {F : FS} {body : DTS} (hm : mg x = some (.ref C)) (M : Mk K C f) (Fd : C8.Fun K "__init__" qual st f fd) (b : Binds K fd ps []) (S : FnScope N ps (C8.fnScope st)) (hn : ps.length = n) (h1 : 1 ≤ n)
    (d : ∀ (cdv : Value) (A : Around) (outer : List Env) (s : Shared) (H : Hp) (E : XK), A.guards = some [] → Room k (A.deeper (envOfC qual (C8.fnScope st) s.heap.objs.size f cdv)) → DSs (cxOf C8.CX0 P w K mg base N qual (C8.fnScope st) f cdv A outer s H E).nox 1 (C8.fnBody st) body)
    (law : ∀ ts R, ts.length = n → F ts R → body ⟨fun G => R (G.take 1) (.fz .non), retW 1 R⟩ (ts.map some ++ List.replicate (N.length - n) none)) : Ini P w K mg base (k + 1) x n F :=
  ⟨C, f, fd, ps, hm, M, fnG_of Fd S (fun vs H Q E sp => sp.1.trans hn.symm) fun cdv A outer s H vs Q E hg hr sp => body_ok rfl h1 (d cdv A outer s H E hg hr) law sp, b⟩
theorem mth_no {x m : Str} {C : Addr} {f : Addr} {fd : FuncData} {ps : List Str} {k n : Nat} (hm : mg x = some (.ref C)) (c : Cls K C) (me : Meth K C m f) (b : Binds K fd ps []) (hn : ps.length = n) : Mth P w K mg base k x m n (fun _ _ => False) :=
  ⟨C, f, fd, ps, hm, c, me, ⟨fun vs H Q E sp => sp.1.trans hn.symm, fun A outer s H args us vs Q E _ _ _ _ _ sp => by obtain ⟨_, h, ts, fp, R, _, _, _, w, _⟩ := sp; exact w.elim⟩, b⟩
theorem mth_up {x m : Str} {k j n : Nat} {F : FS} (h : Mth P w K mg base k x m n F) (hk : k ≤ j) : Mth P w K mg base j x m n F := by
  obtain ⟨C, f, fd, ps, a0, a1, a2, G, a3⟩ := h
  exact ⟨C, f, fd, ps, a0, a1, a2, ⟨G.len, fun A outer s H args us vs Q E hg hr => G.run A outer s H args us vs Q E hg (hr.mono hk)⟩, a3⟩
theorem mth_weak {x m : Str} {k n : Nat} {F F' : FS} (i : ∀ ts R, F' ts R → F ts R) (h : Mth P w K mg base k x m n F) : Mth P w K mg base k x m n F' := by
  obtain ⟨C, f, fd, ps, a0, a1, a2, G, a3⟩ := h
  refine ⟨C, f, fd, ps, a0, a1, a2, ⟨fun vs H Q E sp => ?_, fun A outer s H args us vs Q E q1 q2 q3 q4 q5 sp => G.run A outer s H args us vs Q E q1 q2 q3 q4 q5 ?_⟩, a3⟩
  · obtain ⟨hl, h0, ts, fp, R, z1, z2, z3, z4, z5⟩ := sp
    exact G.len vs H Q E ⟨hl, h0, ts, fp, R, z1, z2, z3, i _ _ z4, z5⟩
  · obtain ⟨hl, h0, ts, fp, R, z1, z2, z3, z4, z5⟩ := sp
    exact ⟨hl, h0, ts, fp, R, z1, z2, z3, i _ _ z4, z5⟩
end
end DL

/-! Lists of owned lists: a new one behind; a list that is walked in a comprehension, read alone. -/
namespace DL
open PySem PySem.Spec L2
theorem Owns.app {K : PySem.W.Frag} {h H : Hp} {t : T} {v : V} {g : List Addr} : ∀ {ts : List T} {vs : List V} {fp : List Addr}, Owns K h H ts vs fp → Own K h H t v g → Owns K h H (ts ++ [t]) (vs ++ [v]) (fp ++ g)
  | _, _, _, .nil, o => by simpa using Owns.cons o .nil
  | _, _, _, .cons a r, o => by simpa using Owns.cons a (Owns.app r o)
def dAppNew (to : DTE) : DTE := fun G Q => to G fun G1 v => match v with
  | .pk i p => (match atE G1 i p with | some (.ll ts) => ts.length < 10000000 ∧ Q (setE G1 i p (.ll (ts ++ [.ls []]))) (.t (.fz .non)) | _ => False)
  | .t _ => False
theorem de_appNew {X : Cx} {po : Bool} {o : Expr} {to : DTE} {apos cpos lp : Pos} (ho : DE X po o to)
    (hbase : attributeBase o "append" X.env (eval o X.env) = eval o X.env := by rfl)
    (hfew : ((backTo cpos (starEach [Expr.List [] lp] X.env)).all (fun x => !x.1) && (backToKw cpos (keywordEach [] X.env)).all (fun x => x.1.isSome)
      && decide (([Expr.List [] lp] : List Expr).length + ([] : List Keyword).length + (if ([] : List Keyword).isEmpty then 0 else 1) < 30)) = true := by rfl)
    (hline : (apos.endLine == cpos.line) = true := by rfl) (hs : starEach [Expr.List [] lp] X.env = (false, eval (Expr.List [] lp) X.env) :: starEach [] X.env := by rfl) (hplain : (backTo cpos (starEach [] X.env)).any (·.1) = false := by rfl) :
    DE X false (.Call (.Attribute o "append" apos) [.List [] lp] [] cpos) (dAppNew to) := by
  refine pe_imp (pe_bm PySem.F.plainAttrs_list PySem.F.slot_list_append PySem.F.type_list_append mt_append ho (pa_cons (pe_lst pa_nil) pa_nil hs) hbase hfew hline hs hplain) fun σ H Q ⟨h, G, fp, Q', S, w, c⟩ => ?_
  refine ⟨h, G, fp, _, S, w, fun v H1 ⟨h1, G1, f1, va, fva, r1, w1⟩ => ?_⟩
  cases va with
  | t t => exact w1.elim
  | pk i p =>
    cases r1.ov with
    | pk l e =>
      dsimp only at w1
      split at w1
      · rename_i ts et
        obtain ⟨fc, oc, ndc, chg⟩ := loc_change r1.st et l
        cases oc with
        | @ll a _ vs fl n b ow =>
          refine ⟨.inl ⟨rfl, _, SqL.of b⟩, by simp [sizeLine], fun q nq => ?_⟩
          have qa : a ≠ q := fun z => by subst z; rw [b] at nq; cases nq
          have nqh : h1 q = none := by
            cases z : h1 q with
            | none => rfl
            | some u => obtain ⟨y, ey⟩ := r1.st.sub.there z; rw [nq] at ey; cases ey
          have nfl : q ∉ fl := fun m => by obtain ⟨_, u, eu⟩ := ow.there q m; rw [nq] at eu; cases eu
          have nal : a ∉ fl := (List.nodup_cons.mp ndc).1
          refine ⟨a, vs, .ref q, rfl, rfl, by rw [upd_ne qa]; exact b, by rw [← ow.length]; exact Nat.lt_of_lt_of_le w1.1 (by decide), ?_⟩
          have nr : NRes X.K h1 H1 (a :: fl) h1 (upd (upd H1 q (.lst [])) a (.lst (vs ++ [V.ref q]))) (.ll (ts ++ [.ls []])) (.ref a) (a :: (fl ++ [q])) (.fz .non) .non [] := by
            refine ⟨.ll n upd_same ((ow.move (Same.refl h1) (fun x m => ?_) fun x m => (ow.there x m).1).app (.ls nqh ?_ .nil)), .fz .non, ?_, ⟨Same.refl h1, fun x u m e => .inl ?_, fun x m => ?_, fun x u e => .inl e⟩, fun x u e => ?_⟩
            · rw [upd_ne (by intro z; subst z; exact nal m), upd_ne (by intro z; subst z; exact nfl m)]
            · rw [upd_ne qa.symm, upd_same]
            · simp only [List.append_nil]
              refine List.nodup_cons.mpr ⟨by simp only [List.mem_append, List.mem_singleton, not_or]; exact ⟨nal, qa⟩, List.nodup_append.mpr ⟨(List.nodup_cons.mp ndc).2, by simp, fun x hx y hy z => by simp at hy; subst hy; subst z; exact nfl hx⟩⟩
            · rw [upd_ne (fun z => m (by simp [z])), upd_ne (fun z => by subst z; rw [nq] at e; cases e)]; exact e
            · simp at m
              rcases m with rfl | m | rfl
              · exact .inl (by simp)
              · exact .inl (by simp [m])
              · exact .inr nq
            · rw [upd_ne (fun z => by subst z; rw [n] at e; cases e), upd_ne (fun z => by subst z; rw [nqh] at e; cases e)]; exact r1.st.sub x u e
          obtain ⟨fp', S3, ot, nd3, e3⟩ := chg nr
          exact c _ _ ⟨h1, _, fp', .t (.fz .non), [], ⟨S3, .t ot, nd3, r1.drop.trans e3, fun z => by cases z⟩, w1.2⟩
      · exact w1.elim
def dLenLL (te : DTE) : DTE := fun G Q => te G fun G1 v => match v with
  | .pk i p => (match atE G1 i p with | some (.ll ts) => Q G1 (.t (.fz (.int ts.length))) | _ => False)
  | .t _ => False
theorem de_lenLL {X : Cx} {pa : Bool} {e : Expr} {te : DTE} {p pos : Pos} (hg : Gl X "len") (hm : X.mg "len" = none) (he : DE X pa e te)
    (hs : starEach [e] X.env = (false, eval e X.env) :: starEach [] X.env := by rfl) (hpl : (backTo pos (starEach [] X.env)).any (·.1) = false := by rfl) : DE X pa (.Call (.Name "len" p) [e] [] pos) (dLenLL te) :=
  pe_imp (pe_callB call_len_seq hg hm (by decide +kernel) (pa_cons he pa_nil hs) (by decide) (by decide) hs hpl) fun σ H Q ⟨h, G, fp, Q', S, w, c⟩ => ⟨h, G, fp, _, S, w, fun v H1 ⟨h1, G1, f1, va, fva, r1, w1⟩ => by
    cases va with
    | t t => exact w1.elim
    | pk i p =>
      cases r1.ov with
      | pk l e =>
        dsimp only at w1
        split at w1
        · rename_i ts et
          obtain ⟨g1, gc, g2, _, oc, _⟩ := r1.st.env.loc et l
          cases oc with
          | @ll a _ vs fl n b ow =>
            refine ⟨a, vs, rfl, .inl (SqL.of b), c _ _ ⟨h1, G1, f1, .t (.fz (.int ts.length)), [], ⟨r1.st, .t (.fz ?_), by simpa using r1.st.nd, by simpa using r1.drop, r1.pu⟩, w1⟩⟩
            rw [ow.length]; exact .int
        · exact w1.elim⟩
/-- [], a list of owned things to come -/
def dNewLL : DTE := fun G Q => Q G (.t (.ll []))
theorem de_newLL {X : Cx} {pos : Pos} : DE X true (.List [] pos) dNewLL := pe_imp (pe_lst pa_nil) fun σ H Q ⟨h, G, fp, Q', S, w, c⟩ => ⟨by simp [sizeLine], fun p np => c _ _ (by
  have hp : h p = none := by
    cases e : h p with
    | none => rfl
    | some o => obtain ⟨u, q⟩ := S.sub.there e; rw [np] at q; cases q
  exact OpPost.res S (Ext.refl h H fp) (fun _ => ⟨rfl, rfl, fun _ _ => rfl⟩) (R := fun t => t = .ll []) ⟨h, .ll [], [p], ⟨Same.refl h, fun a o e => by
      rw [upd_ne (fun z => by subst z; rw [hp] at e; cases e)]; exact S.sub a o e, fun a o e => by rw [upd_ne (ne_of_none e np)]; exact e, .ll hp upd_same .nil, by simp, by simpa using np, fun _ _ e => .inl e⟩, rfl⟩ fun t e => e ▸ w)⟩
/-! ### a list read alone -/
def dLcQ (ti : DTE) (g : DTG) (tt : DTT) (te : DTE) (us : List Nat) : DTE := fun G Q => ti G fun G1 v => match v with
  | .pk i p => i ∉ us ∧ (match atE G1 i p with
    | some (.ls ds) => ds.length ≤ 10000000 ∧ ∃ (px : D → Bool) (fx : D → D), (∀ d ∈ ds, g d (wipeE G1 us) fun G2 => atE G2 i p = some (.ls ds) ∧ wipeE G2 us = wipeE G1 us ∧ tt G2 fun _ b => b = px d ∧ (b = true → te G2 fun _ y => y = .t (.fz (fx d)))) ∧
      Q (unwipe G1 (wipeE G1 us) us) (.t (.ls ((ds.filter px).map fx)))
    | _ => False)
  | .t _ => False
/-! targets that leave the heap alone -/
def sGk (K : PySem.W.Frag) (ob : L2.St → L2.St) (g : DTG) : TG := fun v σ H R => ∃ h G fp d Q, Stt K h H G σ fp ∧ At K h d v ∧ g d G Q ∧ ∀ σ' G' fp', Stt K h H G' σ' fp' → (∀ a ∈ fp', a ∈ fp) → ob σ' = ob σ → Q G' → R σ' H
def DGk (X : Cx) (ob : L2.St → L2.St) (tg : Expr) (g : DTG) : Prop := PG X tg (sGk X.K ob g)
def sGsk (K : PySem.W.Frag) (ob : L2.St → L2.St) (g : DTGs) : TGs := fun vs σ H R => ∃ h G fp ds Q, Stt K h H G σ fp ∧ Ats K h ds vs ∧ g ds G Q ∧ ∀ σ' G' fp', Stt K h H G' σ' fp' → (∀ a ∈ fp', a ∈ fp) → ob σ' = ob σ → Q G' → R σ' H
def DGsk (X : Cx) (ob : L2.St → L2.St) (ts : List Expr) (g : DTGs) : Prop := PGs X ts (sGsk X.K ob g)
section
variable {X : Cx} {ob : L2.St → L2.St} {pos : Pos} {e : Expr} {es : List Expr} {g : DTG} {gs : DTGs}
theorem dgk_name {i : Nat} (p : PG X e (gName i)) (ho : ∀ σ x, ob (List.set σ i x) = ob σ) : DGk X ob e (gN i) := pg_imp p fun v σ H R ⟨h, G, fp, d, Q, S, a, ⟨hi, w⟩, c⟩ => by
  obtain ⟨f', S', s⟩ := S.store hi (.fz a) (by simpa using S.nd)
  exact c _ _ f' S' (fun x mx => by simpa using s x mx) (ho _ _) w
theorem dgsk_nil : DGsk X ob [] gsNil := pgs_imp pgs_nil fun v σ H R ⟨h, G, fp, ds, Q, S, a, ⟨e, w⟩, c⟩ => by
  subst e
  cases a
  exact ⟨rfl, c _ _ fp S (fun _ m => m) rfl w⟩
theorem dgsk_cons (h1 : DGk X ob e g) (h2 : DGsk X ob es gs) (hc : (assignEach (e :: es) X.env).map (·.2) = assign e X.env :: (assignEach es X.env).map (·.2) := by rfl) : DGsk X ob (e :: es) (gsCons g gs) := pgs_imp (pgs_cons h1 h2 hc) fun vs σ H R ⟨h, G, fp, ds, Q, S, a, w, c⟩ => by
  cases a with
  | nil => exact w.elim
  | cons a r =>
    refine ⟨_, _, rfl, h, G, fp, _, _, S, a, w, fun σ1 G1 f1 S1 s1 t1 w1 => ?_⟩
    exact ⟨h, G1, f1, _, _, S1, r, w1, fun σ2 G2 f2 S2 s2 t2 w2 => c σ2 G2 f2 S2 (fun a m => s1 a (s2 a m)) (t2.trans t1) w2⟩
theorem dgk_tup {k : Nat} {n : Nat} (hc : X.calm = true) (h : DGsk X ob es gs) (hn : (assignEach es X.env).length = n := by rfl) (hst : (assignEach es X.env).findIdx? (·.1) = none := by rfl) : DGk X ob (.Tuple es k pos) (gT n gs) :=
  pg_imp (pg_tup hc h hn hst) fun v σ H R ⟨h, G, fp, d, Q, S, a, w, c⟩ => by
    cases a with
    | tup ea ra => exact ⟨_, _, rfl, SqT.of (S.sub.tup ea), by rw [← ra.length]; exact w.1, h, G, fp, _, _, S, ra, w.2, c⟩
    | _ => exact w.elim
end
theorem LocV.other {H : Hp} {σ σ' : L2.St} {i : Nat} {p : Option Stp} {v : V} (l : LocV H σ i p v) (e : σ'[i]? = σ[i]?) : LocV H σ' i p v := by
  obtain ⟨v0, ev, l⟩ := l
  exact ⟨v0, e.trans ev, l⟩
theorem atE_other {G : En} {i j : Nat} {p : Option Stp} {o : Option T} (h : i ≠ j) : atE (G.set j o) i p = atE G i p := by
  unfold atE
  rw [List.getElem?_set_ne (Ne.symm h)]
theorem atE_wipe {G : En} {i : Nat} {p : Option Stp} : ∀ {us : List Nat}, i ∉ us → atE (wipeE G us) i p = atE G i p
  | [], _ => rfl
  | u :: us, h => by
    simp only [wipeE]
    rw [atE_other (fun z => h (by simp [z]))]
    exact atE_wipe fun m => h (by simp [m])
theorem wipeE_len (G : En) : ∀ us : List Nat, (wipeE G us).length = G.length
  | [] => rfl
  | u :: us => by simp only [wipeE, List.length_set]; exact wipeE_len G us
theorem upd_id {H : Hp} {a : Addr} {o : HO} (h : H a = some o) : upd H a o = H := by
  funext x
  by_cases e : x = a
  · subst e; rw [upd_same, h]
  · rw [upd_ne e]
theorem lcQ_imp {X : Cx} {ti te : DTE} {g : DTG} {tt : DTT} {pi : Bool} {us : List Nat} {σ : L2.St} {H : Hp} {Q : VK} (w : sE X.K false (dLcQ ti g tt te us) σ H Q) :
    tLc (fun σ H R => sE X.K pi ti σ H fun x H1 => (∃ a, x = .ref a ∧ (∃ xs, SqL X.K H1 a xs) ∧ R (Itl X.K a) H1) ∨ (∃ a, x = .ref a ∧ (∃ xs, SqT X.K H1 a xs) ∧ R (Itt X.K a) H1)) (sGk X.K (fun σ => L2.wipe σ us) g) (sT X.K true tt) (sE X.K true te) us σ H Q := by
  obtain ⟨h, G, fp, Q', S, w, c⟩ := w
  refine ⟨h, G, fp, _, S, w, fun v H1 ⟨h1, G1, f1, va, fva, r1, w1⟩ => ?_⟩
  cases va with
  | t t => exact w1.elim
  | pk i p =>
    obtain ⟨hij, w1⟩ := w1
    split at w1
    · rename_i ds et
      obtain ⟨hn, px, fx, hx, w1⟩ := w1
      have S1 := r1.st
      cases r1.ov with
      | pk l e =>
        obtain ⟨g1, gc, g2, _, oc, _⟩ := S1.env.loc et l
        cases oc with
        | @ls a _ vs0 n0 b0 r0 =>
          refine .inl ⟨a, rfl, ⟨vs0, SqL.of b0⟩, ?_⟩
          intro D nD
          have hD1 : h1 D = none := by
            cases q : h1 D with
            | none => rfl
            | some o => obtain ⟨u, e⟩ := S1.sub.there q; rw [nD] at e; cases e
          have etw : atE (wipeE G1 us) i p = some (.ls ds) := by rw [atE_wipe hij]; exact et
          have lw : ∀ {H2}, LocV H2 σ i p (.ref a) → LocV H2 (L2.wipe σ us) i p (.ref a) := fun l2 => l2.other (by rw [wipe_get, if_neg hij])
          refine ⟨fun k mm H' => mm = ds.length - k ∧ k ≤ ds.length ∧ ∃ h' f' va, H' D = some (.lst va) ∧ Ats X.K h' (((ds.take k).filter px).map fx) va ∧ h' D = none ∧ D ∉ f' ∧ Stt X.K h' H' (wipeE G1 us) (L2.wipe σ us) f' ∧ Ext h1 (upd H1 D (.lst [])) f1 h' (upd H' D (.lst [])) f' ∧ Same h1 h' ∧ LocV H' (L2.wipe σ us) i p (.ref a),
            ⟨ds.length, rfl, Nat.zero_le _, ?_⟩, ?_⟩
          · have Sn : Stt X.K h1 (upd H1 D (.lst [])) G1 σ f1 := S1.grow (Same.refl h1) (fun a o e => by
              rw [upd_ne (fun z => by subst z; rw [hD1] at e; cases e)]; exact S1.sub a o e) (fun a o e => by rw [upd_ne (ne_of_none e nD)]; exact e) fun _ _ e => .inl e
            obtain ⟨f2, S2, s2⟩ := Sn.wipe us
            have nf1 : D ∉ f1 := fun m => by obtain ⟨_, u, e⟩ := S1.env.there D m; rw [nD] at e; cases e
            refine ⟨h1, f2, [], upd_same, .nil, hD1, fun m => nf1 (s2 D m), S2, ?_, Same.refl h1, lw (l.keep S1 et fun x m => upd_ne fun z => nf1 (z ▸ m))⟩
            rw [upd_upd]
            exact (Ext.refl h1 _ f1).weak s2
          · rintro k mm H' ⟨rfl, hk, h', f', va, eD, ac, nh, nf, S', e', s', l'⟩
            obtain ⟨q1, qc, q2, _, oc', _⟩ := S'.env.loc etw l'
            cases oc' with
            | @ls _ _ vs n b r =>
              by_cases hlt : k < ds.length
              · have ex : ds[k]? = some ds[k] := List.getElem?_eq_getElem hlt
                obtain ⟨x0, ex0, ax0⟩ := r.get ex
                refine .inr ⟨⟨vs, x0, SqL.of b, ex0⟩, fun H2 => k + 1 ≤ ds.length ∧ ∃ h' f' va, H2 D = some (.lst va) ∧ Ats X.K h' (((ds.take (k + 1)).filter px).map fx) va ∧ h' D = none ∧ D ∉ f' ∧ Stt X.K h' H2 (wipeE G1 us) (L2.wipe σ us) f' ∧ Ext h1 (upd H1 D (.lst [])) f1 h' (upd H2 D (.lst [])) f' ∧ Same h1 h' ∧ LocV H2 (L2.wipe σ us) i p (.ref a),
                  fun H2 hh => ⟨ds.length - (k + 1), by omega, rfl, hh⟩, ?_⟩
                rintro x H2 ⟨rfl, y⟩
                have exx : x0 = x := Option.some.inj (ex0.symm.trans (y vs (SqL.of b)))
                subst exx
                refine ⟨h', _, f', _, _, S', ax0, hx _ (List.getElem_mem hlt), fun σ3 G3 f3 S3 s3 t3 q3 => ?_⟩
                obtain ⟨ea3, ew3, q3⟩ := q3
                have ht3 : L2.wipe σ3 us = L2.wipe σ us := t3.trans (wipe_wipe σ us)
                refine ⟨ht3, ?_⟩
                -- what stands behind a step: the list at D is z
                have fin : ∀ {h5 : Hp} {H5 : Hp}, Stt X.K h5 H5 G3 σ3 f3 → Ext h' H2 f' h5 H5 f3 → (∀ a ∈ f3, H5 a = H2 a) → H5 D = some (.lst va) ∧ ∀ z, Ats X.K h5 (((ds.take (k + 1)).filter px).map fx) z →
                    ∃ h' f' va, (upd H5 D (.lst z)) D = some (.lst va) ∧ Ats X.K h' (((ds.take (k + 1)).filter px).map fx) va ∧ h' D = none ∧ D ∉ f' ∧ Stt X.K h' (upd H5 D (.lst z)) (wipeE G1 us) (L2.wipe σ us) f' ∧ Ext h1 (upd H1 D (.lst [])) f1 h' (upd (upd H5 D (.lst z)) D (.lst [])) f' ∧ Same h1 h' ∧ LocV (upd H5 D (.lst z)) (L2.wipe σ us) i p (.ref a) := fun {h5 H5} S5 x26 keep => by
                  have k1 : H5 D = some (.lst va) := (x26.fr D _ nf eD).elim id (fun ⟨d, _⟩ => by cases d)
                  have k2 : h5 D = none := by
                    cases q : h5 D with
                    | none => rfl
                    | some o =>
                      rcases x26.hn D o q with r | r | r
                      · rw [nh] at r; cases r
                      · exact (nf r).elim
                      · rcases r with r | ⟨_, r⟩ <;> (rw [eD] at r; cases r)
                  have k3 : D ∉ f3 := fun m => nf (s3 D m)
                  refine ⟨k1, fun z az => ?_⟩
                  obtain ⟨f7, S7, s7⟩ := S5.wipe us
                  rw [ew3, ht3] at S7
                  have nf7 : D ∉ f7 := fun m => k3 (s7 D m)
                  have lv5 : LocV H5 (L2.wipe σ us) i p (.ref a) := by
                    have es : σ3[i]? = (L2.wipe σ us)[i]? := by
                      have := congrArg (fun s : L2.St => s[i]?) ht3
                      simp only [wipe_get, if_neg hij] at this ⊢
                      exact this
                    have lb := (l'.other (σ' := σ3) es).keep (H' := H5) S3 (t := .ls ds) ea3 keep
                    exact lb.other es.symm
                  refine ⟨h5, f7, z, upd_same, az, k2, nf7, ⟨fun a o e => ?_, ?_, S7.nd⟩, ?_, s'.trans x26.gh, lv5.keep S7 etw fun x m => upd_ne fun z => nf7 (z ▸ m)⟩
                  · rw [upd_ne (fun z => by subst z; rw [k2] at e; cases e)]; exact S7.sub a o e
                  · exact S7.env.move (Same.refl h5) (fun a m => upd_ne fun z => nf7 (z ▸ m)) fun a m => (S7.env.there a m).1
                  · rw [upd_upd]
                    refine (e'.trans ⟨x26.gh, fun a o m e => ?_, fun a m => ?_, fun a o e => ?_⟩).weak s7
                    · by_cases d : a = D
                      · subst d; rw [upd_same] at e ⊢; exact .inl e
                      · rw [upd_ne d] at e ⊢; exact x26.fr a o m e
                    · rcases x26.nw a m with r | r
                      · exact .inl r
                      · right; rw [upd_ne (fun d => by subst d; rw [eD] at r; cases r)]; exact r
                    · rcases x26.hn a o e with r | r | r
                      · exact .inl r
                      · exact .inr (.inl r)
                      · have d : a ≠ D := fun d => by subst d; rcases r with r | ⟨_, r⟩ <;> (rw [eD] at r; cases r)
                        right; right; exact r.imp (fun r => by rw [upd_ne d]; exact r) fun ⟨vs, r⟩ => ⟨vs, by rw [upd_ne d]; exact r⟩
                have etake : (ds.take (k + 1)).filter px = (ds.take k).filter px ++ (if px ds[k] = true then [ds[k]] else []) := by
                  rw [List.take_succ, List.filter_append, ex]
                  simp [List.filter_cons]
                have wk : ∀ {h4 H4 : Hp} {f4 : List Addr}, Ext h' H2 f3 h4 H4 f4 → (∀ a ∈ f4, a ∈ f3) → Ext h' H2 f' h4 H4 f4 := fun {h4 H4 f4} x s4 => ⟨x.gh, fun a o m e => x.fr a o (fun z => m (s3 a z)) e, fun a m => .inl (s3 a (s4 a m)), fun a o e => by
                  rcases x.hn a o e with q | q | q
                  · exact .inl q
                  · exact .inr (.inl (s3 a q))
                  · exact .inr (.inr q)⟩
                refine ⟨h', _, f3, _, S3, q3, fun bb H4 ⟨h4, G4, f4, S4, x4, p4, eb, w4⟩ => ?_⟩
                obtain ⟨eG4, ef4, kp4⟩ := p4 rfl
                subst eG4 ef4
                cases bb with
                | true =>
                  rw [if_pos rfl]
                  refine ⟨h4, _, f4, _, S4, w4 rfl, fun u H5 ⟨h5, G5, f5, vl, fv, r5, w5⟩ => ?_⟩
                  subst w5
                  obtain ⟨eG, ef, keep⟩ := r5.pu rfl
                  subst eG ef
                  obtain ⟨k1, fn⟩ := fin r5.st (wk (x4.trans r5.drop) fun _ m => m) fun a m => (keep a m).trans (kp4 a m)
                  have ay : At X.K h5 (fx ds[k]) u := by
                    cases r5.ov with
                    | t o => cases o with | fz a => exact a
                  refine ⟨va, k1, ?_, hlt, fn _ ?_⟩
                  · have l1 := List.length_filter_le px (ds.take k)
                    rw [← ac.length, List.length_map]
                    rw [List.length_take] at l1
                    exact Nat.lt_of_lt_of_le (show _ < 10000000 by omega) (by decide)
                  · rw [etake, if_pos eb.symm, List.map_append]
                    exact Ats.append (ac.mono (x4.trans r5.drop).gh) (.cons ay .nil)
                | false =>
                  rw [if_neg Bool.false_ne_true]
                  obtain ⟨k1, fn⟩ := fin S4 (wk x4 fun _ m => m) kp4
                  refine ⟨hlt, ?_⟩
                  have := fn va (by rw [etake, if_neg (by rw [← eb]; simp), List.append_nil]; exact ac.mono x4.gh)
                  rw [upd_id k1] at this
                  exact this
              · have e : k = ds.length := by omega
                subst e
                rw [List.take_length] at ac
                refine .inl ⟨⟨vs, SqL.of b, by rw [← r.length]; exact Nat.le_refl _⟩, c _ _ ?_⟩
                have ln : (L2.wipe σ us).length = σ.length := wipe_length σ us
                have o1 : OwnE X.K h' H' (wipeE G1 us) σ f' := S'.env.other ln.symm fun i2 ne => by
                  rw [wipe_get] at ne
                  have hj : i2 ∈ us := Classical.byContradiction fun z => ne (by rw [if_neg z])
                  have hl : i2 < σ.length := Classical.byContradiction fun z => ne (by rw [if_pos hj, List.getElem?_eq_none (by omega)]; rfl)
                  have lg : (wipeE G1 us).length = σ.length := S'.env.length.trans ln
                  exact wipeE_none G1 us i2 hj (by rw [wipeE_len] at lg; omega)
                obtain ⟨f8, o8, n8, s8⟩ := unwipe_ok S1 s' S'.sub us o1 S'.nd
                refine ⟨h', _, f8, .t (.ls ((ds.filter px).map fx)), [D], ⟨⟨S'.sub, o8, n8⟩, .t (.ls nh eD ac), ?_, ?_, fun z => by cases z⟩, w1⟩
                · exact List.nodup_append.mpr ⟨n8, by simp, fun x hx y hy e => by simp at hy; subst hy; subst e; exact nf (s8 _ hx)⟩
                · refine r1.drop.trans ⟨s', fun a o m e => ?_, fun a m => ?_, fun a o e => ?_⟩
                  · have nd : a ≠ D := fun z => by subst z; rw [nD] at e; cases e
                    have := e'.fr a o m (by rw [upd_ne nd]; exact e)
                    rw [upd_ne nd] at this; exact this
                  · rcases List.mem_append.mp m with m | m
                    · rcases e'.nw a (s8 a m) with r | r
                      · exact .inl r
                      · have nd : a ≠ D := fun z => nf (by rw [← z]; exact s8 a m)
                        rw [upd_ne nd] at r; exact .inr r
                    · simp at m; subst m; exact .inr nD
                  · rcases e'.hn a o e with r | r | r
                    · exact .inl r
                    · exact .inr (.inl r)
                    · have nd : a ≠ D := fun z => by subst z; rw [nh] at e; cases e
                      exact .inr (.inr (r.imp (fun r => by rw [upd_ne nd] at r; exact r) fun ⟨vs, r⟩ => ⟨vs, by rw [upd_ne nd] at r; exact r⟩))
    · exact w1.elim
theorem de_lcQ {X : Cx} {pi : Bool} {tg iter elt : Expr} {ifs : List Expr} {ti te : DTE} {g : DTG} {tt : DTT} {pos : Pos} {scope : Scope} {own : List (Str × Nat)} (hc : X.calm = true) (hN : X.N.Nodup) (hi : DE X pi iter ti) (ok : BlkOk X.N X.env.scope scope own)
    (hg : ∀ (s : Shared) (H : Hp) (C : Addr) (cl : List (Str × Addr)) (fp : List Addr), DGk (X.blk s H scope (compEnvC scope cl C X.env) fp) (fun σ => L2.wipe σ (own.map (·.2))) tg g)
    (ht : ∀ (s : Shared) (H : Hp) (C : Addr) (cl : List (Str × Addr)) (fp : List Addr), PTs (X.blk s H scope (compEnvC scope cl C X.env) fp) ifs (sT X.K true tt))
    (he : ∀ (s : Shared) (H : Hp) (C : Addr) (cl : List (Str × Addr)) (fp : List Addr), DE (X.blk s H scope (compEnvC scope cl C X.env) fp) true elt te) (hs : ∀ x, foldedSetIterable iter X.env x = pure x := by intro _; rfl) :
    DE X false (.ListComp elt [⟨tg, iter, ifs, 0⟩] scope pos) (dLcQ ti g tt te (own.map (·.2))) :=
  pe_imp (pe_lc (own := own) (g := sGk X.K (fun σ => L2.wipe σ (own.map fun x : Str × Nat => x.2)) g) (tt := sT X.K true tt) (te := sE X.K true te) hc hN (pi_any hi) ok hg ht he hs) fun _ _ _ w => lcQ_imp w
end DL

/-! enumerate over a tuple. -/
namespace DL
open PySem PySem.Spec L2
open Sem (wp)
open AutoSeq1 (wpAny_loadPart')
theorem meets_enumT (l : Addr) (items : Array Value) (n : Nat) (dct : Option Addr) (sl : Array (Option Value)) :
    Meets (Builtin.«enumerate.__new__» ⟨[.type "enumerate", .ref l], []⟩) (fun _ R s => s.heap.get? l = some { cls := .type "tuple", dict := dct, data := .seq items n, slots := sl } ∧
      R (.ok (.ret (.ref (s.heap.push { cls := .type "tuple_iterator", data := .fields #[.ref l, .int 0 0] }).objs.size)))
        { s with heap := (s.heap.push { cls := .type "tuple_iterator", data := .fields #[.ref l, .int 0 0] }).push { cls := .type "enumerate", data := .fields #[.none, .bool false, .ref s.heap.objs.size, rawInt 0, .none, .none] } }) :=
  .of_wp fun prog w A R s h => by
    obtain ⟨hp, g, d, tk, os⟩ := s; obtain ⟨hl, h⟩ := h
    have hsub := sub_enumerate
    have hL : Heap.IsTuple (Shared.heap ⟨hp, g, d, tk, os⟩) l items := ⟨_, hl, rfl, n, rfl⟩
    wp_walk using wpAny_loadPart' hl
    refine wpAny_stack_any fun st => wpAny_pure ?_
    split
    · rename_i c _ _ _ _ _
      cases (c == Value.type "enumerate")
      · wp_walk using wpAny_loadPart' hl, wpAny_pyIter_tuple hL
        exact ⟨_, rfl, h⟩
      · wp_walk using wpAny_loadPart' hl, wpAny_pyIter_tuple hL
        exact ⟨_, rfl, h⟩
    · wp_walk using wpAny_loadPart' hl, wpAny_pyIter_tuple hL
      exact ⟨_, rfl, h⟩
section
variable {prog : Program} {w : World} {A : Around} {E : Value → Shared → Prop} {s : Shared}
theorem call_enumT {l : Addr} {items : Array Value} {Q : Value → Shared → Prop} (hL : s.heap.IsTuple l items)
    (h : ∀ h', IsEnum h' (s.heap.objs.size + 1) s.heap.objs.size 0 .none → h'.IsTupleIter s.heap.objs.size l 0 → h'.objs.size = s.heap.objs.size + 2 →
      (∀ b o, s.heap.get? b = some o → h'.get? b = some o) → Q (.ref (s.heap.objs.size + 1)) { s with heap := h' }) :
    wpAny (model prog w) A (call (.type "enumerate") [.ref l]) Q E s := by
  obtain ⟨⟨c, dct, dt, sl⟩, hl, hc, n, hd⟩ := hL
  replace hc : c = .type "tuple" := hc
  replace hd : dt = .seq items n := hd
  subst hc hd
  refine callType_new F.called_enumerate (by decide) (F.typeCall_enumerate_1 _) (F.newCall_enumerate_1 _) (fun obj => F.args_object_init_2 obj _) F.entry_enumerate_new
    (meets_enumT l items n dct sl) ⟨hl, ?_⟩
  have hz : (s.heap.push { cls := .type "tuple_iterator", data := .fields #[.ref l, .int 0 0] }).objs.size = s.heap.objs.size + 1 := Heap.size_push ..
  show _ ∧ _
  rw [hz]
  have he : IsEnum ((s.heap.push { cls := .type "tuple_iterator", data := .fields #[.ref l, .int 0 0] }).push
      { cls := .type "enumerate", data := .fields #[.none, .bool false, .ref s.heap.objs.size, rawInt 0, .none, .none] }) (s.heap.objs.size + 1) s.heap.objs.size 0 .none := by
    have := Heap.get?_push_size (s.heap.push { cls := .type "tuple_iterator", data := .fields #[.ref l, .int 0 0] })
      (o := { cls := .type "enumerate", data := .fields #[.none, .bool false, .ref s.heap.objs.size, rawInt 0, .none, .none] }) rfl
    rw [hz] at this; exact this
  refine ⟨⟨_, he, rfl⟩, h _ he ⟨_, Heap.get?_push_of_some _ (Heap.get?_push_size _ rfl), rfl, rfl⟩ (by rw [Heap.size_push, hz]) fun b o x => Heap.get?_push_of_some _ (Heap.get?_push_of_some _ x)⟩
theorem drawsT {it l : Addr} {items : Array Value} (hh : A.handled = none) (hne : l ≠ it) : Draws prog w A.in1 it [it, l] items.size (fun i x => items[i]? = some x) (fun i h => h.IsTupleIter it l i ∧ h.IsTuple l items) where
  live := fun i h ⟨⟨o, e, _⟩, _⟩ => ⟨o, e⟩
  frame := fun i h h' ⟨⟨o, e, c, d⟩, ⟨o2, e2, r⟩⟩ k => ⟨⟨o, k it (by simp) o e, c, d⟩, ⟨o2, k l (by simp) o2 e2, r⟩⟩
  item := fun i s Q E hi ⟨st, tp⟩ hQ => RZ.nextOf_tuple_item st tp (x := items[i]) (by simp [hi]) fun h' st' sb => hQ _ h' s.toks (by simp [hi]) ⟨st', let ⟨o, e, r⟩ := tp; ⟨o, (sb.2 l hne).trans e, r⟩⟩ sb
  done := fun s Q E ⟨st, tp⟩ hE => RZ.nextOf_tuple_end (A := A.in1) hh st tp (by simp) hE
end
def IteT (K : PySem.W.Frag) (a : Addr) : It :=
  ⟨fun i H => ∃ (xs : List V) (x : V), SqT K H a xs ∧ xs[i]? = some x, fun i H v H' => ∃ T x, v = .ref T ∧ H T = none ∧ H' = upd H T (.tup [.int (i : Nat), x]) ∧ ∀ xs, SqT K H a xs → xs[i]? = some x, fun i H => ∃ xs : List V, SqT K H a xs ∧ xs.length = i⟩
theorem tup_at {s : Shared} {it a : Addr} {items : Array Value} {i : Nat} (h1 : s.heap.IsTupleIter it a i) (h2 : s.heap.IsTuple a items) : a ≠ it := fun z => by
  obtain ⟨o, e, c, d⟩ := h1
  obtain ⟨o2, e2, c2, _⟩ := h2
  rw [z, e] at e2
  cases e2
  rw [c] at c2
  exact absurd c2 (by decide)
theorem turn_enumT {P : Program} {w : World} {K : PySem.W.Frag} {elts : List Expr} {kk : Nat} {tpos : Pos} (a e it : Addr) :
    Turn P w K (.Tuple elts kk tpos) (IteT K a) [e, it] e (fun i h => (∃ old, IsEnum h e it ((i : Nat) : Int) old) ∧ h.IsTupleIter it a i ∧ e ≠ it) where
  mem := by simp
  obj := fun i h st b hb => by
    obtain ⟨⟨old, he⟩, ⟨o, ho, hc, hd⟩, _⟩ := st
    have e' : b = e ∨ b = it := by simpa using hb
    rcases e' with z | z
    · rw [z]; exact ⟨_, he, fun v q => nomatch q⟩
    · rw [z]; exact ⟨o, ho, fun v q => by rw [hd] at q; cases q⟩
  keep := fun i h h' st k => let ⟨⟨old, he⟩, ⟨o, ho, r⟩, hne⟩ := st; ⟨⟨old, k e (by simp) _ he⟩, ⟨o, k it (by simp) o ho, r⟩, hne⟩
  item := by
    intro X hP hw hK hc i pins s σ H E I hf st hg
    subst hP hw hK
    obtain ⟨⟨old, he⟩, hit, hne⟩ := st
    obtain ⟨xs, x, hq, hx⟩ := hg
    obtain ⟨its, rv, p, hz⟩ := I.tuple hq
    have pt : s.heap.IsTuple a its.toArray := p
    obtain ⟨u, hu, ru⟩ := rv.get hx
    have hel : e < s.heap.objs.size := Heap.lt_size he
    have hil : it < s.heap.objs.size := by obtain ⟨_, q, _⟩ := hit; exact Heap.lt_size q
    have hai := tup_at hit pt
    have hae : e ∉ [it, a] := fun m => by
      simp only [List.mem_cons, List.not_mem_nil, or_false] at m
      rcases m with m | m
      · exact hne m
      · obtain ⟨o2, e2, c2, _⟩ := pt
        rw [← m, he] at e2
        cases e2
        exact absurd (Value.type.inj c2) (by decide)
    have hus : i < its.toArray.size := by
      have := (List.getElem?_eq_some_iff.mp hu).1
      simpa using this
    refine wpAny_pyNext_enum_itemD (drawsT (I.ok.hd hc) hai) he ⟨hit, pt⟩ hus hne hae fun y h' tk py ho hst hT hsz hk => ?_
    have hy : y = u := by
      have : its.toArray[i]? = some u := by simpa using hu
      rw [py] at this; exact Option.some.inj this
    subst hy
    refine ⟨_, rfl, wpAny_letOwnedTupleGo_enum (s := { s with heap := h', toks := tk + 1 }) ho fun h'' he' sb => ?_⟩
    have hT2 : h''.get? s.heap.objs.size = some { cls := .type "tuple", data := .seq #[.int i tk, y] } := (sb.2 _ (Nat.ne_of_gt hel)).trans hT
    have new : ObjOk X.prog X.w (upd H s.heap.objs.size (.tup [.int (i : Nat), x])) h'' s.heap.objs.size (.tup [.int (i : Nat), x]) :=
      ⟨by show 2 ≤ sizeLine; decide, [.int i tk, y], .cons ⟨_, rfl⟩ (.cons ru .nil), ⟨_, hT2, rfl, _, rfl⟩⟩
    have I1 : Inv X pins σ (upd H s.heap.objs.size (.tup [.int (i : Nat), x])) { s with heap := h'', toks := tk + 1 } :=
      I.turnedNew (ch := [e, it]) (fun b ob hb q => (sb.2 b (fun z => hb (by simp [z]))).trans (hk b ob (fun z => hb (by simp [z])) (fun z => hb (by simp [z])) q)) hf (Nat.le_refl _) new
    obtain ⟨⟨o3, e3, r3⟩, _⟩ := hst
    refine ⟨.ref s.heap.objs.size, _, I1, rfl, ⟨_, x, rfl, I.hok.fresh (Nat.le_refl _), rfl, fun ys hy => by rw [I.tuple_inj hy hq]; exact hx⟩, ⟨⟨y, ?_⟩, ⟨o3, (sb.2 it (Ne.symm hne)).trans e3, r3⟩, hne⟩, fun b hb => ?_⟩
    · have e1 : ((i + 1 : Nat) : Int) = (i : Int) + 1 := by omega
      rw [e1]; exact he'
    · have hb' : b < s.heap.objs.size := by
        have e' : b = e ∨ b = it := by simpa using hb
        rcases e' with z | z
        · rw [z]; exact hel
        · rw [z]; exact hil
      rw [upd_ne (Nat.ne_of_lt hb')]
      exact (hf b hb).1
  done := by
    intro X hP hw hK hc i pins s σ H E I hf st hg
    subst hP hw hK
    obtain ⟨⟨old, he⟩, hit, hne⟩ := st
    obtain ⟨xs, hq, hx⟩ := hg
    obtain ⟨its, rv, p, hz⟩ := I.tuple hq
    have pt : s.heap.IsTuple a its.toArray := p
    obtain ⟨f0, f1, f2, f3, f4, f5⟩ := hf it (by simp)
    have hl := rv.length
    have hai := tup_at hit pt
    have hn : its.toArray.size = i := by simp; omega
    exact wpAny_pyNext_enum_endD (n := its.toArray.size) (drawsT (I.ok.hd hc) hai) he ⟨hn ▸ hit, pt⟩ fun h' eb => ⟨rfl, I.turned (t' := s.toks) (fun b o hb q => eb b o hb q) f0 f1 f3 f4 f5⟩
  self := fun A i s Q E st h => let ⟨⟨_, he⟩, _⟩ := st; wpAny_pyIter_enum he h
def iEnumT (K : PySem.W.Frag) (ta : TA) : TI := fun σ H R => ta σ H fun vs H1 => ∃ a xs, vs = [.ref a] ∧ SqT K H1 a xs ∧ R (IteT K a) H1
theorem pi_enumT {X : Cx} {e : Expr} {ta : TA} {p pos tpos : Pos} {elts : List Expr} {kk : Nat} (hg : Gl X "enumerate") (hm : X.mg "enumerate" = none) (ha : PA X [e] ta) (hs : starEach [e] X.env = [(false, eval e X.env)] := by rfl) :
    PI X (.Tuple elts kk tpos) (.Call (.Name "enumerate" p) [e] [] pos) (iEnumT X.K ta) := by
  refine ⟨fun pins s σ H R I h => ?_⟩
  refine PyProof.Rows.Call_ (ld_blt I hg hm PyProof.Rows.boot_enumerate (PyProof.Rows.callWith_type1 (thn (ha.run pos pins s σ H _ I h) fun us s1 ⟨vs, H1, I1, r1, q1⟩ => ?_) hs rfl))
  obtain ⟨a, xs, ex, hq, q⟩ := q1
  subst ex
  cases r1 with
  | cons r rr =>
    cases rr
    cases r
    obtain ⟨its, rv, p', hz⟩ := I1.tuple hq
    refine call_enumT (show s1.heap.IsTuple a its.toArray from p') fun h' he hit hsz hk => wpAny_pyIter_enum he ?_
    have I2 : Inv X pins σ H1 { s1 with heap := h' } := I1.kept (t' := s1.toks) hk
    refine ⟨s1.heap.objs.size + 1, [s1.heap.objs.size + 1, s1.heap.objs.size], _, _, H1, rfl, I2, turn_enumT a (s1.heap.objs.size + 1) s1.heap.objs.size, ⟨⟨.none, he⟩, hit, Nat.succ_ne_self _⟩, fun b hb => ?_, q⟩
    have e' : b = s1.heap.objs.size + 1 ∨ b = s1.heap.objs.size := by simpa using hb
    have hle : s1.heap.objs.size ≤ b := by
      rcases e' with z | z
      · rw [z]; exact Nat.le_add_right _ _
      · rw [z]; exact Nat.le_refl _
    exact I1.fpOk hle (I1.hok.fresh hle)
def iEnumTD (ta : DTA) : DTI := fun G Q => ta G fun G1 as => withD as fun ds => match ds with | [.tup xs] => Q G1 (enumD 0 xs) | _ => False
theorem di_enumT {X : Cx} {e : Expr} {pa : Bool} {ta : DTA} {p pos tpos : Pos} {elts : List Expr} {kk : Nat} (hg : Gl X "enumerate") (hm : X.mg "enumerate" = none) (ha : DA X pa [e] ta) (hs : starEach [e] X.env = [(false, eval e X.env)] := by rfl) :
    DI X (.Tuple elts kk tpos) (.Call (.Name "enumerate" p) [e] [] pos) (iEnumTD ta) :=
  pi_imp (pi_enumT hg hm ha hs) fun σ H Q ⟨h, G, fp, Q', S, w, c⟩ => by
    refine ⟨h, G, fp, _, S, w, fun vs H1 ⟨h1, G1, f1, as, S1, av, e1, p1, w1⟩ => ?_⟩
    obtain ⟨ds, ed, w2⟩ := withD_of w1
    have ad := avD_at av ed
    split at w2
    · rename_i xs
      cases ad with
      | cons a r =>
        cases r
        cases a with
        | @tup a _ vs ea ra =>
          refine ⟨_, vs, rfl, (SqT.of (S1.sub.tup ea)), c _ _ ⟨h1, G1, f1, _, S1, e1, fun h H s _ sb => ?_, w2⟩⟩
          have e2 : SqT X.K H a vs := SqT.of (sb.tup (s _ _ ea))
          refine ⟨fun i d ed => ?_, vs, e2, by rw [enumD_length, ra.length]⟩
          obtain ⟨x, ex, rfl⟩ := enumD_get ed
          obtain ⟨v, ev, avx⟩ := ra.get ex
          refine ⟨⟨vs, v, e2, ev⟩, fun y H' hy => ?_⟩
          obtain ⟨T, z, rfl, nT, rfl, f⟩ := hy
          have := (f vs e2).symm.trans ev
          cases this
          simp only [Nat.zero_add]
          exact new_pair sb nT .int (avx.mono s)
    · exact w2.elim
end DL

/-! x is True; dict(..) of a list of pairs whose keys are ints or texts. -/
namespace DL
open PySem PySem.Spec L2
def isBlD (neg : Bool) : D2 := fun x y R => match x, y with
  | .bl a, .bl b => R (.fz (.bl (neg != decide (a = b))))
  | _, _ => False
section
variable {X : Cx}
theorem isBl_ok : OpK X (compareOp .Is) (isBlD false) := by
  refine opk_of op_isBl fun x y H Q ⟨h, dx, dy, R, sb, ax, ay, w, c⟩ => ?_
  unfold isBlD at w
  split at w
  · exact ⟨_, _, ax.bl, ay.bl, c _ H (.plain sb .bl (by simpa using w))⟩
  · exact w.elim
theorem notBl_ok : OpK X (compareOp .IsNot) (isBlD true) := by
  refine opk_of op_notBl fun x y H Q ⟨h, dx, dy, R, sb, ax, ay, w, c⟩ => ?_
  unfold isBlD at w
  split at w
  · exact ⟨_, _, ax.bl, ay.bl, c _ H (.plain sb .bl (by simpa using w))⟩
  · exact w.elim
end
def pairsI : List D → Option (List (Key × D))
  | [] => some []
  | .tup [kd, v] :: r => (match keyOf kd, pairsI r with
    | some k, some m => some ((k, v) :: m)
    | _, _ => none)
  | _ :: _ => none
def dictID : DN := fun ds R => match ds with
  | [.lst l] => (match pairsI l with | some m => (m.map (·.1)).Nodup ∧ R (.dk m) | none => False)
  | _ => False
theorem pairsI_at {K : PySem.W.Frag} {h H : Hp} (sb : Sub h H) : ∀ (l : List D) (vs : List V) (m : List (Key × D)), Ats K h l vs → pairsI l = some m →
    ∃ (ps : List Addr) (kvs : List (Key × V)), vs = ps.map V.ref ∧ Paired (fun p (kv : Key × V) => SqT K H p [kV kv.1, kv.2]) ps kvs ∧ AtK K h m kvs
  | [], _, m, .nil, e => by
    cases (Option.some.inj e : [] = m)
    exact ⟨[], [], rfl, .nil, .nil⟩
  | d :: r, _, m, .cons a ar, e => by
    unfold pairsI at e
    split at e
    · rename_i h0; cases h0
    · rename_i kd v r' h0
      cases h0
      split at e
      · rename_i k m' ek em
        cases (Option.some.inj e : (k, v) :: m' = m)
        obtain ⟨ps, kvs, e1, e2, e3⟩ := pairsI_at sb r _ m' ar em
        cases a with
        | @tup q _ ws eq aq =>
          cases aq with
          | cons ak av =>
            cases av with
            | cons av nl =>
              cases nl
              have := keyOf_at ek ak
              subst this
              exact ⟨q :: ps, (k, _) :: kvs, by rw [e1]; rfl, .cons (SqT.of (sb.tup eq)) e2, .cons av e3⟩
      · cases e
    · cases e
theorem putK_new {k : Key} {x : V} {kvs : List (Key × V)} (h : k ∉ kvs.map (·.1)) : putK kvs k x = kvs ++ [(k, x)] := by
  unfold putK
  have e : (kvs.any fun kv => decide (kv.1 = k)) = false := by
    rw [List.any_eq_false]
    intro kv m q
    exact h (by rw [← of_decide_eq_true q]; exact List.mem_map.mpr ⟨kv, m, rfl⟩)
  rw [if_neg (by rw [e]; simp)]
theorem mergeK_new : ∀ (more kvs : List (Key × V)), ((kvs ++ more).map (·.1)).Nodup → mergeK kvs more = kvs ++ more
  | [], kvs, _ => by rw [List.append_nil]; rfl
  | p :: r, kvs, h => by
    have hp : p.1 ∉ kvs.map (·.1) := fun m => by
      rw [List.map_append, List.map_cons] at h
      exact (List.nodup_append.mp h).2.2 p.1 m p.1 (by simp) rfl
    show mergeK (putK kvs p.1 p.2) r = _
    rw [putK_new hp, mergeK_new r _ (by simpa using h)]
    simp
theorem OpPost.dkey {K : PySem.W.Frag} {h H : Hp} {R : T → Prop} {p : Addr} {m : List (Key × D)} {kvs : List (Key × V)} (s : Sub h H) (np : H p = none) (a : AtK K h m kvs) (q : R (.dk m)) : OpPost K h H R (.ref p) (upd H p (.dK kvs)) := by
  have hp : h p = none := by
    cases e : h p with
    | none => rfl
    | some o => obtain ⟨u, q⟩ := s.there e; rw [np] at q; cases q
  refine ⟨h, .dk m, [p], ⟨Same.refl h, fun a o e => ?_, fun a o e => ?_, .dk hp upd_same a, by simp, by simpa using np, fun _ _ e => .inl e⟩, q⟩
  · rw [upd_ne (fun z => by subst z; rw [hp] at e; cases e)]; exact s a o e
  · rw [upd_ne (ne_of_none e np)]; exact e
theorem dictI_ok {X : Cx} (hc : X.calm = true) : CaK X (.type "dict") dictID := by
  refine ca_of (call_dictP hc) fun xs H Q ⟨h, ds, R, sb, a, w, c⟩ => ?_
  unfold dictID at w
  split at w
  · split at w
    · rename_i m em
      obtain ⟨v, rfl, a1⟩ := a.one
      obtain ⟨p, vs, rfl, r, al⟩ := a1.lst sb
      obtain ⟨ps, kvs, e1, e2, e3⟩ := pairsI_at sb _ vs m al em
      subst e1
      refine ⟨p, ps, kvs, rfl, SqL.of r, e2, fun q nq => c _ _ ?_⟩
      rw [mergeK_new kvs [] (by rw [List.nil_append, e3.keys]; exact w.1), List.nil_append]
      exact .dkey sb nq e3 w.2
    · exact w.elim
  · exact w.elim
end DL

/-! sorted(set(t)), t a tuple of ints. -/
namespace DL
open PySem PySem.Spec L2
section
variable {X : Cx}
def tSortSetT (K : PySem.W.Frag) (ta : TE) : TE := fun σ H Q => ta σ H fun x H1 => ∃ (l : Addr) (ns : List Int), x = .ref l ∧ SqT K H1 l (ns.map V.int) ∧ ns.length < 64 ∧ ∀ (ks : List Int) (p : Addr), ks.Pairwise (· < ·) → (∀ k, k ∈ ks ↔ k ∈ ns) → H1 p = none → Q (.ref p) (upd H1 p (.lst (ks.map V.int)))
open PyProof.Rows in
theorem pe_sortSetT {a : Expr} {ta : TE} {p p2 q pos : Pos} (hg : Gl X "sorted") (hm : X.mg "sorted" = none) (hg2 : Gl X "set") (hm2 : X.mg "set" = none) (ha : PE X a ta) (hc : X.calm = true)
    (na : starEach [a] X.env = (false, eval a X.env) :: starEach [] X.env := by rfl) : PE X (.Call (.Name "sorted" p) [.Call (.Name "set" p2) [a] [] q] [] pos) (tSortSetT X.K ta) := by
  refine ⟨fun pins s σ H Q I h => ?_⟩
  refine Call_ (ld_blt I hg hm boot_sorted ?_)
  refine PyProof.Rows.callWith_builtin1 (PyProof.Rows.args_cons ?_ rfl) rfl rfl
  refine Call_ (ld_blt I hg2 hm2 boot_set ?_)
  refine PyProof.Rows.callWith_type1 (PyProof.Rows.args_cons (thn (ha.run pins s σ H _ I h) fun v s1 ⟨x, H1, I1, r1, q1⟩ => PyProof.Rows.args_nil ?_) na) na rfl
  obtain ⟨l, ns, rfl, hq, hl, q1⟩ := q1
  cases r1
  obtain ⟨its, r, hT, hz⟩ := I1.tuple hq
  refine call_set_tupI ns (I1.ok.hd hc) hT (by simpa using r.ints) (by unfold scanBound; omega) fun h' tk c hS hcn hk => ?_
  refine PyProof.Rows.args_nil ?_
  have I2 : Inv X pins σ H1 { s1 with heap := h', toks := tk } := I1.kept hk
  refine sorted_set hS (I2.ok.hd hc) (by omega) fun s' p out c2 ks k g o hp hg3 hi hs hm3 hl3 => ?_
  have hlen : (ks.map V.int).length ≤ sizeLine := by rw [List.length_map, hl3, sizeLine_eq]; omega
  have hn : H1 p = none := I2.hok.fresh hp
  have J : Inv X pins σ (upd H1 p (.lst (ks.map V.int))) { ({ s1 with heap := h', toks := tk } : Shared) with heap := s'.heap, gens := s'.gens, drawn := s'.drawn, toks := s'.toks } :=
    I2.call (ch := []) (Un.laid k hp hn) (I2.hok.laid k hp ⟨hlen, out.toList, c2, vals_of_ints hi, hg3⟩) (by rw [g]; exact I2.bare) (fun _ z => nomatch z)
  have e : s' = { ({ s1 with heap := h', toks := tk } : Shared) with heap := s'.heap, gens := s'.gens, drawn := s'.drawn, toks := s'.toks } := by
    cases s'
    cases s1
    cases o
    rfl
  rw [e]
  exact ⟨.ref p, _, J, rfl, q1 ks p hs (fun x => by rw [hm3]; simp) hn⟩
def dSortSet (te : DTE) : DTE := fun G Q => te G fun G1 v => rdW G1 v fun d => match d with
  | .tup l => ∃ ns : List Int, l = ns.map .int ∧ ns.length < 64 ∧ ∀ ks : List Int, ks.Pairwise (· < ·) → (∀ k, k ∈ ks ↔ k ∈ ns) → Q G1 (.t (.ls (ks.map .int)))
  | _ => False
theorem de_sortSet {a : Expr} {te : DTE} {pa : Bool} {p p2 q pos : Pos} (hg : Gl X "sorted") (hm : X.mg "sorted" = none) (hg2 : Gl X "set") (hm2 : X.mg "set" = none) (hc : X.calm = true) (ha : DE X pa a te)
    (na : starEach [a] X.env = (false, eval a X.env) :: starEach [] X.env := by rfl) : DE X pa (.Call (.Name "sorted" p) [.Call (.Name "set" p2) [a] [] q] [] pos) (dSortSet te) :=
  pe_imp (pe_sortSetT hg hm hg2 hm2 ha hc na) fun σ H Q ⟨h, G, fp, Q', S, w, c⟩ => by
    refine ⟨h, G, fp, _, S, w, fun v H1 p1 => ?_⟩
    obtain ⟨h1, G1, f1, va, fva, r1, w1⟩ := p1
    obtain ⟨x, ax, w2⟩ := r1.ov.rd r1.st w1
    split at w2
    · obtain ⟨ns, rfl, hl, w3⟩ := w2
      obtain ⟨p, vs, rfl, r, al⟩ := ax.tup r1.st.sub
      rw [ats_ints al] at r
      refine ⟨p, ns, rfl, SqT.of r, hl, fun ks p2 hs hk np => c _ _ ?_⟩
      have := OpPost.list (K := X.K) (R := fun t => t = .ls (ks.map .int)) r1.st.sub np ints_ats rfl
      exact OpPost.res r1.st r1.drop r1.pu this fun t e => e ▸ w3 ks hs hk
    · exact w2.elim
end
end DL

/-! max(t, default=-1), t a tuple of ints. -/
namespace DL
open PySem PySem.Spec L2
def maxDef (c : Int) : List Int → Int
  | [] => c
  | n :: r => r.foldl max n
section
variable {X : Cx}
def rMaxDef (K : PySem.W.Frag) : List V → List V → Hp → VK → Prop := fun xs zs H Q => ∃ (l : Addr) (ns : List Int) (c : Int), xs = [V.ref l] ∧ zs = [V.int c] ∧ SqT K H l (ns.map V.int) ∧ Q (.int (maxDef c ns)) H
theorem reads_ints {h : Heap} : ∀ {us : List Value} {ns : List Int}, PyProof.Rows.IntsAre us ns → ReadsAll h us (ns.map PyData.int) []
  | _, _, .nil => .nil
  | _, _, .cons n t r => ReadsAll.cons (as := []) (bs := []) (.int n t) (reads_ints r)
theorem depth_ints : ∀ ns : List Int, PyData.depthAll (ns.map PyData.int) = 0
  | [] => rfl
  | n :: r => by
    show max (PyData.depth (.int n)) (PyData.depthAll (r.map PyData.int)) = 0
    rw [depth_ints r]; rfl
theorem cr_maxDef (hc : X.calm = true) (hu : X.A.units + 1 < cLine) : CallRK X (.builtin "max") [Str.ofString "default"] (rMaxDef X.K) := by
  intro pins s σ H xs zs us ws Q I r rz h
  obtain ⟨l, ns, c, rfl, rfl, hs, q⟩ := h
  obtain ⟨its, rv, hT, hz⟩ := I.tuple hs
  rw [Vals.ref1 r]
  cases rz with
  | cons r1 t1 =>
    cases t1
    obtain ⟨tc, rfl⟩ := r1
    refine PySem.W.max_tuple_default (xs := ns.map PyData.int) (as := []) (I.ok.hd hc) hT (reads_ints (by simpa using rv.ints)) ⟨fun x hx y hy => ?_, fun x hx => ?_⟩ (by rw [depth_ints]; omega) (fun e h' tk hk => ?_) fun y ys i v h' tk bs e hv hr hk => ?_
    · obtain ⟨a, _, rfl⟩ := List.mem_map.mp hx
      obtain ⟨b, _, rfl⟩ := List.mem_map.mp hy
      rfl
    · obtain ⟨a, _, rfl⟩ := List.mem_map.mp hx
      exact PyData.noConfusion
    · rw [List.map_eq_nil_iff] at e
      subst e
      exact ⟨.int c, H, I.kept hk, ⟨_, rfl⟩, q⟩
    · cases ns with
      | nil => cases e
      | cons n ns =>
        cases e
        rw [PySem.W.maxD_ints] at hr
        cases hr
        exact ⟨.int _, H, I.kept hk, ⟨_, rfl⟩, q⟩
def dMaxDef (te : DTE) : DTE := fun G Q => te G fun G1 v => rdW G1 v fun d => match d with
  | .tup l => ∃ ns : List Int, l = ns.map .int ∧ Q G1 (.t (.fz (.int (maxDef (-1) ns))))
  | _ => False
theorem de_maxDef {a : Expr} {te : DTE} {pa : Bool} {p p1 p2 pos kp : Pos} {j : Nat} (hg : Gl X "max") (hm : X.mg "max" = none) (hc : X.calm = true) (hu : X.A.units + 1 < cLine) (ha : DE X pa a te)
    (na : starEach [a] X.env = (false, eval a X.env) :: starEach [] X.env := by rfl)
    (he : backTo pos (starEach (a :: []) X.env) = (false, eval a X.env) :: backTo pos (starEach [] X.env) := by rfl) (hpl : (backTo pos (starEach (a :: []) X.env)).any (·.1) = false := by rfl)
    (hall : (backToKw pos (keywordEach [⟨some "default", .UnaryOp .USub (.Constant (.int 1) j p1) p2, kp⟩] X.env)).all (·.1.isSome) = true := by rfl) (hnone : (backToKw pos (keywordEach [⟨some "default", .UnaryOp .USub (.Constant (.int 1) j p1) p2, kp⟩] X.env)).any (·.1.isNone) = false := by rfl) (hks : (backToKw pos (keywordEach [⟨some "default", .UnaryOp .USub (.Constant (.int 1) j p1) p2, kp⟩] X.env)).filterMap (·.1) = [Str.ofString "default"] := by rfl) :
    DE X pa (.Call (.Name "max" p) [a] [⟨some "default", .UnaryOp .USub (.Constant (.int 1) j p1) p2, kp⟩] pos) (dMaxDef te) :=
  pe_imp (pe_callBK (cr_maxDef hc hu) hg hm PyProof.Rows.boot_max (pa_cons ha pa_nil na) (pk_cons (pe_un un_neg pe_int) pk_nil) (by decide) (by decide) he hpl hall hnone hks) fun σ H Q ⟨h, G, fp, Q', S, w, c⟩ => by
    refine ⟨h, G, fp, _, S, w, fun v H1 p1 => ?_⟩
    obtain ⟨h1, G1, f1, va, fva, r1, w1⟩ := p1
    obtain ⟨x, ax, w2⟩ := r1.ov.rd r1.st w1
    split at w2
    · obtain ⟨ns, rfl, w3⟩ := w2
      obtain ⟨p, vs, rfl, r, al⟩ := ax.tup r1.st.sub
      rw [ats_ints al] at r
      refine ⟨1, rfl, p, ns, -1, rfl, rfl, SqT.of r, c _ _ ?_⟩
      have := OpPost.plain (K := X.K) (R := fun t => t = .fz (.int (maxDef (-1) ns))) (d := .int (maxDef (-1) ns)) r1.st.sub .int rfl
      exact OpPost.res r1.st r1.drop r1.pu this fun t e => e ▸ w3
    · exact w2.elim
end
end DL

/-! repr; the law's own call, by its promise over data. -/
namespace DL
open PySem PySem.Spec PyProof.Rows L2

/-! ### repr -/
def D.shw (d : D) : Prop := d.py.canLay0 = true ∧ d.py.showable = true ∧ d.py.hasDict = false ∧ d.py.depth ≤ 60 ∧ d.py.shown.length ≤ sizeLine
def reprD : D1 := fun x R => x.shw ∧ R (.fz (.str x.py.shown))
theorem call_repr (X : Cx) (hgd : X.A.guards = some []) (hu : X.A.units + 65 < cLine) : CallR X (.builtin "repr") (fun xs H Q => ∃ x d, xs = [x] ∧ Dp X.K H x d ∧ d.showable = true ∧ d.hasDict = false ∧ d.depth ≤ 60 ∧ d.shown.length ≤ sizeLine ∧ Q (.str d.shown) H) := by
  rintro pins s σ H xs us Q I rs ⟨x, d, ex, dp, sh, nd, dep, sz, q⟩
  subst ex
  obtain ⟨u, eu, rx⟩ := vals1 rs
  subst eu
  obtain ⟨as, rd⟩ := Dp.reads I d x u dp rx
  cases rd with
  | none => exact PySem.P.repr_of_none ⟨.str _, H, I.tok _, ⟨_, rfl⟩, q⟩
  | bool b => exact PySem.P.repr_of_bool ⟨.str _, H, I.tok _, ⟨_, rfl⟩, q⟩
  | int i t => exact PySem.P.repr_of_int (of_decide_eq_true sh) ⟨.str _, H, I.tok _, ⟨_, rfl⟩, q⟩
  | str y t => exact PySem.P.repr_of_str ⟨.str _, H, I.tok _, ⟨_, rfl⟩, q⟩ sz
  | list e1 e2 e3 e4 => exact PySem.repr_of_reads' (.list e1 e2 e3 e4) sh (fun z => by rw [nd] at z; cases z) hgd (by omega) (fun _ _ z => z) (fun h' v tk hk => ⟨.str _, H, I.kept hk, ⟨_, rfl⟩, q⟩) sz
  | tuple e1 e2 e3 e4 => exact PySem.repr_of_reads' (.tuple e1 e2 e3 e4) sh (fun z => by rw [nd] at z; cases z) hgd (by omega) (fun _ _ z => z) (fun h' v tk hk => ⟨.str _, H, I.kept hk, ⟨_, rfl⟩, q⟩) sz
  | dict e1 e2 e3 e4 e5 => cases nd
def reprN : DN := fun ds R => match ds with | [x] => reprD x R | _ => False
theorem repr_ok {X : Cx} (hgd : X.A.guards = some []) (hu : X.A.units + 65 < cLine) : CaK X (.builtin "repr") reprN := by
  refine ca_of (call_repr X hgd hu) fun xs H Q ⟨h, ds, R, sb, a, w, c⟩ => ?_
  unfold reprN at w
  split at w
  · obtain ⟨v, rfl, a1⟩ := a.one
    obtain ⟨⟨s1, s2, s3, s4, s5⟩, w⟩ := w
    exact ⟨v, _, rfl, a1.dp sb s1, s2, s3, s4, s5, c _ H (.plain sb .str w)⟩
  · exact w.elim

/-! ### the law's call -/
theorem hid_some {h : Heap} {H : Hp} {b : Addr} {o : Obj} (e : h.get? b = some o) (n : H b = none) : (hidT h H).get? b = some o := hidT_get e n
/-- the script alone is tracked (or nothing is) -/
structure Seen (K : PySem.W.Frag) (a : Addr) (H : Hp) : Prop where
  at_a : ∀ b u, H b = some u → b = a
  own : ∀ u, H a = some u → K.lookup a = none
  frz : Only H
theorem law_callG {P : Program} {w : World} {K : PySem.W.Frag} {mg mb : Str → Option Value} {k : Nat} {fa a : Addr} {fd : FuncData} {x : Str} {sp : Sp} {s : Shared} {vs : List Value} {ns : List Int}
    (KX : K.In s.heap) (hns : s.heap.Ns mainGlobals mg) (hb : s.heap.Ns builtinsNs mb) (hbb : ∀ x : Str, x ≠ "__name__" → mb x = bootBuiltins x) (hlim : s.heap.NoLimit) (hg : s.gens = #[])
    (ha : s.heap.get? a = some { cls := .type "list", data := .seq vs.toArray }) (hi : IntsAre vs ns) (hl : ns.length ≤ sizeLine) (hr : Room k callerA)
    (F : ∀ base : Heap, K.In base → base.Ns mainGlobals mg → FnG P w K mg base k fa fd [x] sp) (bind : ∀ (s : Shared) (u : Value), BindsTo s fd ⟨[u], []⟩ [(x, u)])
    (asks : ∀ H : Hp, Only H → SqL K H a (ns.map V.int) → sp [.ref a] H (fun v _ => v = .bl true) C8.E0) :
    codeAny (model P w) callerA (.call (.ref fa) ⟨[.ref a], []⟩) (fun r t => r = .ok (.ret (.bool true)) ∧ OldK s.heap t.heap ∧ t.os = s.os ∧ AllBare t.gens) s := by
  have step : ∀ H : Hp, Seen K a H → SqL K H a (ns.map V.int) → HOk P w H s.heap →
      codeAny (model P w) callerA (.call (.ref fa) ⟨[.ref a], []⟩) (fun r t => r = .ok (.ret (.bool true)) ∧ OldK s.heap t.heap ∧ t.os = s.os ∧ AllBare t.gens) s := fun H seen sq ok => by
    have free : ∀ {b : Addr} {o : Obj}, s.heap.get? b = some o → (b = a → False) → H b = none := fun {b o} _ ne => by
      cases q : H b with
      | none => rfl
      | some u => exact (ne (seen.at_a b u q)).elim
    have dicts : ∀ {b : Addr} {m : Str → Option Value}, s.heap.Ns b m → (hidT s.heap H).Ns b m := fun {b m} ⟨o, es, ep, e, d, r⟩ =>
      ⟨o, es, ep, hid_some e (free e fun z => by subst z; rw [ha] at e; cases e; cases d), d, r⟩
    have known : K.In (hidT s.heap H) := fun b o e => by
      refine hid_some (KX b o e) ?_
      cases q : H b with
      | none => rfl
      | some u =>
        have z := seen.at_a b u q
        subst z
        rw [seen.own u q] at e; cases e
    obtain ⟨mc, l1, l2⟩ := hlim
    have e0 : Env0 P w K mg (hidT s.heap H) callerA [] s H := ⟨rfl, ⟨known, dicts hns, ⟨mb, dicts hb, hbb⟩, ⟨mc, dicts l1, l2⟩⟩, fun b o e => of_hidT e, Nat.le_of_eq (hidT_size _ _), trivial, fun b m => (nomatch m), ok, .of_eq hg⟩
    refine codeAny_mono ((F _ known (dicts hns)).run callerA [] s H ⟨[.ref a], []⟩ [.ref a] [.ref a] _ _ rfl hr e0 (bind s (.ref a)) (.cons rfl .nil) (asks H seen.frz sq)) fun r t q => ?_
    match r, q with
    | .ok (.ret u), ⟨v, H', os, bare, un, ok', rel, q⟩ =>
      have q : v = .bl true := q
      subst q
      cases (show u = Value.bool true from rel)
      refine ⟨rfl, OldK.of_keep fun b o e => ?_, os, bare⟩
      cases q : H b with
      | none => exact un.keep b o e q (fun m => nomatch m) (fun m => nomatch m)
      | some u =>
        rcases seen.frz b with z | ⟨ob, xs, z⟩
        · rw [q] at z; cases z
        · have old := (ok b _ z).1
          rw [e] at old
          cases old
          exact (ok' b _ (un.frzs b o _ z)).1
    | .ok .next, q => exact False.elim q
    | .ok .brk, q => exact False.elim q
    | .ok .cont, q => exact False.elim q
    | .error e, q => exact False.elim q
  have rv := vals_ints hi
  cases hk : K.lookup a with
  | some o =>
    have e := KX a o hk
    rw [ha] at e
    cases e
    exact step (fun _ => none) (.mk (fun _ u z => by cases (show (none : Option HO) = some u from z)) (fun u z => by cases (show (none : Option HO) = some u from z)) (fun _ => .inl rfl)) (.inr ⟨_, vs.toArray, _, hk, rfl, rfl, rfl, by rw [List.size_toArray, hi.length]; exact hl, by simpa using rv⟩) (fun _ u z => by cases (show (none : Option HO) = some u from z))
  | none =>
    have one : ∀ b u, upd (fun _ => none) a (.frz { cls := .type "list", data := .seq vs.toArray } (.lst (ns.map V.int))) b = some u → b = a ∧ u = .frz { cls := .type "list", data := .seq vs.toArray } (.lst (ns.map V.int)) := fun b u z => by
      by_cases c : b = a
      · subst c; rw [upd_same] at z; cases z; exact ⟨rfl, rfl⟩
      · rw [upd_ne c] at z; cases z
    refine step _ ⟨fun b u z => (one b u z).1, fun _ _ => hk, fun b => ?_⟩ (.inl (.inr ⟨_, upd_same⟩)) fun b u z => ?_
    · cases q : upd (fun _ => none) a (.frz { cls := .type "list", data := .seq vs.toArray } (.lst (ns.map V.int))) b with
      | none => exact .inl rfl
      | some u => obtain ⟨_, e⟩ := one b u q; exact .inr ⟨_, _, by rw [e]⟩
    · obtain ⟨e1, e2⟩ := one b u z
      subst e1 e2
      exact ⟨ha, by rw [List.length_map]; exact hl, vs, _, rv, ha⟩
/-- the end of a law -/
theorem walkG {l : PySem.W.OpenLaw} {n k : Nat} {q : Program} {loose : List Str} {XP : (Str → Option Value) → Heap → Prop} {YP : World → Heap → Prop} {d : DefRec} {K : Params → PySem.W.Frag} {sp : World → Sp} {x : Str}
    (hn : l.most = some n) (hn2 : n ≤ sizeLine) (hdf : d.params.defaults = []) (hr : Room k callerA) (hY : ∀ (w : World) (h : Heap), YP w h → (K w.params).In h)
    (F : ∀ (w : World) (mg : Str → Option Value) (fa : Addr) (h : Heap), (K w.params).In h → h.Ns mainGlobals mg → mg d.name = some (.ref fa) →
      ∃ fd : FuncData, (∀ (s : Shared) (u : Value), BindsTo s fd ⟨[u], []⟩ [(x, u)]) ∧ ∀ base : Heap, (K w.params).In base → base.Ns mainGlobals mg → FnG l.prog w (K w.params) mg base k fa fd [x] (sp w))
    (asks : ∀ (w : World) (H : Hp) (a : Addr) (ns : List Int), ns.length ≤ n → Only H → SqL (K w.params) H a (ns.map V.int) → sp w [.ref a] H (fun v _ => v = .bl true) C8.E0) :
    PySem.W.WalkO q loose XP YP l.row.toRowW d [] (fun f vs => PySem.call f vs) :=
  Att.attach_call hn hdf fun w s₀ s₁ mg mb fa o pm cd doc a vs ns G Y ho hd hcd hmg hobj hints hlen hg => by
    obtain ⟨fd, bd, hF⟩ := F w mg fa _ (hY w _ Y) G.T.g hmg
    exact law_callG (hY w _ Y) G.T.g G.T.b G.T.builtins G.T.nolimit hg hobj hints (Nat.le_trans hlen hn2) hr hF bd fun H hO hS => asks w H a ns hlen hO hS
/-- a law's promise: True, whatever the script -/
def F_true (n : Nat) : FS := fun ts R => ∃ ns : List Int, ts = [.fz (.scr ns)] ∧ ns.length ≤ n ∧ R [] (.fz (.bl true))
theorem asks_true {K : PySem.W.Frag} {H : Hp} {a : Addr} {ns : List Int} {n : Nat} (hl : ns.length ≤ n) (sq : SqL K H a (ns.map V.int)) : spOf K 1 0 (F_true n) [.ref a] H (fun v _ => v = .bl true) C8.E0 :=
  ⟨rfl, H, [.fz (.scr ns)], [], fun _ t => t = .fz (.bl true), Sub.refl H, by simpa using Owns.cons (.fz (.scr sq)) .nil, .nil, ⟨ns, rfl, hl, rfl⟩, fun v H' h' outs t fo fv _ _ ow _ _ e => by subst e; cases ow with | fz b => cases b; rfl⟩
open PyProof.Rows in
/-- as fn_mk, the def's place known -/
theorem fnG_mk {P : Program} {w : World} {K : PySem.W.Frag} {mg : Str → Option Value} {base : Heap} {x : Str} {st : Stmt} {f : Addr} {fd : FuncData} {N ps : List Str} {k n m : Nat} {F : FS} {body : DTS} (Fd : C8.Def K mg x st f fd) (S : FnScope N ps (C8.fnScope st)) (hn : ps.length = n) (hm : m ≤ n)
    (d : ∀ (cdv : Value) (A : Around) (outer : List Env) (s : Shared) (H : Hp) (E : XK), A.guards = some [] → Room k (A.deeper (envOfC x (C8.fnScope st) s.heap.objs.size f cdv)) → DSs (cxOf C8.CX0 P w K mg base N x (C8.fnScope st) f cdv A outer s H E).nox m (C8.fnBody st) body)
    (law : ∀ ts R, ts.length = n → F ts R → body ⟨fun G => R (G.take m) (.fz .non), retW m R⟩ (ts.map some ++ List.replicate (N.length - n) none)) : FnG P w K mg base (k + 1) f fd ps (spOf K n m F) :=
  fnG_of Fd.fn S (fun vs H Q E sp => sp.1.trans hn.symm) fun cdv A outer s H vs Q E hg hr sp => body_ok rfl hm (d cdv A outer s H E hg hr) law sp
end DL

/-! Running a body over data. -/
namespace DL
open PySem PySem.Spec L2

theorem fzW_t {G : En} {t : T} {k : En → D → Prop} : fzW G (.t t) k = (t.calm = true ∧ k G t.toD) := rfl
theorem rdW_t {G : En} {t : T} {k : D → Prop} : rdW G (.t t) k = rdT t k := rfl
theorem rdT_fz {d : D} {k : D → Prop} : rdT (.fz d) k = k d := rfl
theorem rdT_ls {d : List D} {k : D → Prop} : rdT (.ls d) k = k (.lst d) := rfl
theorem rdT_dk {d} {k : D → Prop} : rdT (.dk d) k = k (.dK d) := rfl
theorem rdT_dt {d} {k : D → Prop} : rdT (.dt d) k = k (.dT d) := rfl
theorem fzT_fz {d : D} {k : D → Prop} : fzT (.fz d) k = k d := by simp [fzT, T.calm, T.toD]
theorem fzT_ls {d : List D} {k : D → Prop} : fzT (.ls d) k = k (.lst d) := by simp [fzT, T.calm, T.toD]
theorem fzT_dk {d} {k : D → Prop} : fzT (.dk d) k = k (.dK d) := by simp [fzT, T.calm, T.toD]
theorem fzT_dt {d} {k : D → Prop} : fzT (.dt d) k = k (.dT d) := by simp [fzT, T.calm, T.toD]
theorem fzW_pk {G : En} {i : Nat} {p : Option Stp} {k : En → D → Prop} : fzW G (.pk i p) k = (match atE G i p with | some t => fzT t fun d => k (setE G i p (.fz d)) d | none => False) := rfl
theorem fzW_tt {G : En} {t : T} {k : En → D → Prop} : fzW G (.t t) k = fzT t (k G) := rfl
theorem rdW_pk {G : En} {i : Nat} {p : Option Stp} {k : D → Prop} : rdW G (.pk i p) k = (match atE G i p with | some t => rdT t k | none => False) := rfl
theorem atE_none {G : En} {i : Nat} : atE G i none = (match G[i]? with | some (some t) => some t | _ => none) := by unfold atE; split <;> simp_all
theorem mul_l {i j : Int} (h : -(2 ^ 64) < i ∧ i < 2 ^ 64) : mulOk i j := .inl (.inl h)
theorem mul_r {i j : Int} (h : -(2 ^ 64) < j ∧ j < 2 ^ 64) : mulOk i j := .inl (.inr h)
theorem mod_in {a b : Int} (h : 0 < b) : 0 ≤ a % b ∧ a % b < b := ⟨Int.emod_nonneg a (by omega), Int.emod_lt_of_pos a h⟩
theorem setE_none {G : En} {i : Nat} {t : T} : setE G i none t = G.set i (some t) := rfl
end DL

/-! The combinators where they are applied. -/
namespace DL
open PySem PySem.Spec L2
theorem dConst_ap (t : T) {G Q} : dConst t G Q = (Q G (.t t)) := rfl
theorem dVar_ap (i : Nat) {G Q} : dVar i G Q = (match G[i]? with
  | some (some (.fz d)) => Q G (.t (.fz d))
  | some (some t) => Q G (.pk i none)
  | _ => False) := rfl
theorem dBin_ap (k : D2) (pb : Bool) (ta tb : DTE) {G Q} : dBin k pb ta tb G Q = (ta G fun G1 va =>
  match va, pb with
  | .pk i p, true => tb G1 fun G2 vb => rdW G2 (.pk i p) fun x => rdW G2 vb fun y => k x y fun t => Q G2 (.t t)
  | va, _ => fzW G1 va fun G1' x => tb G1' fun G2 vb => rdW G2 vb fun y => k x y fun t => Q G2 (.t t)) := rfl
theorem dUn_ap (k : D1) (ta : DTE) {G Q} : dUn k ta G Q = (ta G fun G1 va => rdW G1 va fun x => k x fun t => Q G1 (.t t)) := rfl
theorem dVal_ap (te : DTE) {G Q} : dVal te G Q = (te G fun G1 v => rdW G1 v fun d => isB d fun b => Q G1 b) := rfl
theorem dAnd_ap (t u : DTT) {G Q} : dAnd t u G Q = (t G fun G1 c => if c = true then u G1 Q else Q G1 false) := rfl
theorem dOr_ap (t u : DTT) {G Q} : dOr t u G Q = (t G fun G1 c => if c = true then Q G1 true else u G1 Q) := rfl
theorem dNot_ap (t : DTT) {G Q} : dNot t G Q = (t G fun G1 c => Q G1 (!c)) := rfl
theorem dIfE_ap (t : DTT) (u v : DTE) {G Q} : dIfE t u v G Q = (t G fun G1 c => if c = true then u G1 Q else v G1 Q) := rfl
theorem dOfT_ap (t : DTT) {G Q} : dOfT t G Q = (t G fun G1 c => Q G1 (.t (.fz (.bl c)))) := rfl
theorem dBV_ap (te : DTE) {G Q} : dBV te G Q = (te G fun G1 v => rdW G1 v fun d => isB d fun b => Q G1 (.t (.fz (.bl b)))) := rfl
theorem dAndV_ap (ta tb : DTE) {G Q} : dAndV ta tb G Q = (ta G fun G1 v => rdW G1 v fun d => isB d fun b => if b = true then tb G1 Q else Q G1 (.t (.fz (.bl false)))) := rfl
theorem dOrV_ap (ta tb : DTE) {G Q} : dOrV ta tb G Q = (ta G fun G1 v => rdW G1 v fun d => isB d fun b => if b = true then Q G1 (.t (.fz (.bl true))) else tb G1 Q) := rfl
theorem dNotV_ap (ta : DTE) {G Q} : dNotV ta G Q = (ta G fun G1 v => rdW G1 v fun d => isB d fun b => Q G1 (.t (.fz (.bl (!b))))) := rfl
theorem dNil_ap {G Q} : dNil  G Q = (Q G []) := rfl
theorem dACons_ap (te : DTE) (ta : DTA) {G Q} : dACons te ta G Q = (te G fun G1 v => fzW G1 v fun G2 x => ta G2 fun G3 as => Q G3 (.d x :: as)) := rfl
theorem dAConsP_ap (te : DTE) (ta : DTA) {G Q} : dAConsP te ta G Q = (te G fun G1 v => fzP G1 v fun G2 x => ta G2 fun G3 as => Q G3 (.d x :: as)) := rfl
theorem dALend_ap (i : Nat) (ta : DTA) {G Q} : dALend i ta G Q = ((∃ t, G[i]? = some (some t)) ∧ ta G fun G3 as => Q G3 (.sl i :: as)) := rfl
theorem dTup_ap (ta : DTA) {G Q} : dTup ta G Q = (ta G fun G1 as => withD as fun ds => ds.length ≤ 1000 ∧ Q G1 (.t (.fz (.tup ds)))) := rfl
theorem dLst_ap (ta : DTA) {G Q} : dLst ta G Q = (ta G fun G1 as => withD as fun ds => ds.length ≤ 1000 ∧ Q G1 (.t (.ls ds))) := rfl
theorem dCB_ap (k : DN) (ta : DTA) {G Q} : dCB k ta G Q = (ta G fun G1 as => withD as fun ds => k ds fun t => Q G1 (.t t)) := rfl
theorem dCall_ap (n : Nat) (F : FS) (ta : DTA) {G Q} : dCall n F ta G Q = (ta G fun G1 as => as.length = n ∧ (match lendE G1 as with
  | some p => F p.1 fun outs t => Q (backE p.2 as outs) (.t t)
  | none => False)) := rfl
theorem dCallP_ap (n : Nat) (F : FS) (ta : DTA) {G Q} : dCallP n F ta G Q = (ta G fun G1 as => withD as fun ds => ds.length = n ∧ F (ds.map .fz) fun _ t => Q G1 (.t t)) := rfl
theorem dNext_ap {Ds G} : dNext  Ds G = (Ds.nx G) := rfl
theorem dSeq_ap (t u : DTS) {Ds G} : dSeq t u Ds G = (t ⟨u Ds, Ds.rt⟩ G) := rfl
theorem dIf_ap (c : DTT) (t u : DTS) {Ds G} : dIf c t u Ds G = (c G fun G1 b => if b = true then t Ds G1 else u Ds G1) := rfl
theorem dExpr_ap (te : DTE) {Ds G} : dExpr te Ds G = (te G fun G1 _ => Ds.nx G1) := rfl
theorem dRet_ap (te : DTE) {Ds G} : dRet te Ds G = (te G Ds.rt) := rfl
theorem gN_ap (i : Nat) {d G Q} : gN i d G Q = (i < G.length ∧ Q (G.set i (some (.fz d)))) := rfl
theorem gsNil_ap {ds G Q} : gsNil  ds G Q = (ds = [] ∧ Q G) := rfl
theorem gsCons_ap (g : DTG) (gs : DTGs) {ds G Q} : gsCons g gs ds G Q = (match ds with | [] => False | d :: r => g d G fun G1 => gs r G1 Q) := rfl
theorem gT_ap (n : Nat) (gs : DTGs) {d G Q} : gT n gs d G Q = (match d with | .tup ds => ds.length = n ∧ gs ds G Q | _ => False) := rfl
theorem dSet_ap (i : Nat) (te : DTE) {Ds G} : dSet i te Ds G = (te G fun G1 v => setW G1 v i Ds.nx) := rfl
theorem dAsg_ap (te : DTE) (g : DTG) {Ds G} : dAsg te g Ds G = (te G fun G1 v => fzW G1 v fun G2 d => g d G2 Ds.nx) := rfl
theorem iSeqD_ap (te : DTE) {G Q} : iSeqD te G Q = (te G fun G1 v => fzW G1 v fun G2 d => match d with | .lst ds => Q G2 ds | .tup ds => Q G2 ds | .scr ns => Q G2 (ns.map .int) | _ => False) := rfl
theorem iRange1_ap (ta : DTA) {G Q} : iRange1 ta G Q = (ta G fun G1 as => withD as fun ds => match ds with | [.int j] => -(2 ^ 62) ≤ j ∧ j < 2 ^ 62 ∧ Q G1 (upto 0 j.toNat) | _ => False) := rfl
theorem iRange2_ap (ta : DTA) {G Q} : iRange2 ta G Q = (ta G fun G1 as => withD as fun ds => match ds with | [.int i, .int j] => (-(2 ^ 62) ≤ i ∧ i < 2 ^ 62 ∧ -(2 ^ 62) ≤ j ∧ j < 2 ^ 62) ∧ Q G1 (upto i (j - i).toNat) | _ => False) := rfl
theorem iRange3_ap (ta : DTA) {G Q} : iRange3 ta G Q = (ta G fun G1 as => withD as fun ds => match ds with | [.int i, .int j, .int c] => ∃ n, RgC i j c n ∧ Q G1 (uptoC i c n) | _ => False) := rfl
theorem iEnumD_ap (ta : DTA) {G Q} : iEnumD ta G Q = (ta G fun G1 as => withD as fun ds => match ds with | [.lst xs] => Q G1 (enumD 0 xs) | _ => False) := rfl
theorem iZipD_ap (ta : DTA) {G Q} : iZipD ta G Q = (ta G fun G1 as => withD as fun ds => match ds with | [.lst xs, .lst ys] => Q G1 (zipD xs ys) | [.tup xs, .tup ys] => Q G1 (zipD xs ys) | _ => False) := rfl
theorem dFor_ap (ti : DTI) (g : DTG) (tb : DTS) {Ds G} : dFor ti g tb Ds G = (ti G fun G1 xs => forW g tb Ds xs G1) := rfl
theorem dYes_ap {G Q} : dYes  G Q = (Q G true) := rfl
theorem oNone_ap {G Q} : oNone  G Q = (Q G none) := rfl
theorem oSome_ap (te : DTE) {G Q} : oSome te G Q = (te G fun G1 v => rdW G1 v fun d => match d with | .int i => Q G1 (some i) | _ => False) := rfl
theorem dSlice_ap (te : DTE) (tl th : DTO) {G Q} : dSlice te tl th G Q = (te G fun G1 v => match v with
  | .pk i p => tl G1 fun G2 lo => th G2 fun G3 hi => rdW G3 (.pk i p) fun x => sliceD lo hi x fun t => Q G3 (.t t)
  | .t t => rdT t fun x => tl G1 fun G2 lo => th G2 fun G3 hi => sliceD lo hi x fun t => Q G3 (.t t)) := rfl
theorem dMeth_ap (ty : String) (k : NT) (pa : Bool) (to : DTE) (ta : DTA) {G Q} : dMeth ty k pa to ta G Q = (to G fun G1 v => match v with
  | .pk i p => (∃ t, atE G1 i p = some t ∧ t.ty = ty) ∧ ta G1 fun G2 as => (p = none ∨ pa = true) ∧ withD as fun ds => (match atE G2 i p with | some t => k t ds fun t' r => Q (setE G2 i p t') (.t r) | none => False)
  | .t _ => False) := rfl
theorem dMeth0_ap (ty : String) (k : NT) (to : DTE) {G Q} : dMeth0 ty k to G Q = (to G fun G1 v => match v with
  | .pk i p => (match atE G1 i p with | some t => t.ty = ty ∧ k t [] fun t' r => Q (setE G1 i p t') (.t r) | none => False)
  | .t _ => False) := rfl
theorem dStore_ap (pi : Bool) (te to ti : DTE) {Ds G} : dStore pi te to ti Ds G = (te G fun G1 v => fzW G1 v fun G2 d => to G2 fun G3 vo => match vo with
  | .pk i p => ti G3 fun G4 vi => (p = none ∨ pi = true) ∧ rdW G4 vi fun y => (match atE G4 i p with | some t => storeN t y d fun t' => Ds.nx (setE G4 i p t') | none => False)
  | .t _ => False) := rfl
theorem dNewK_ap {G Q} : dNewK  G Q = (Q G (.t (.dk []))) := rfl
theorem dNewT_ap {G Q} : dNewT  G Q = (Q G (.t (.dt []))) := rfl
theorem dChain_ap (f g : Int → Int → Bool) (ta tb tc : DTE) {G Q} : dChain f g ta tb tc G Q = (ta G fun G1 va => rdW G1 va fun x => tb G1 fun G2 vb => rdW G2 vb fun y => isI x fun i => isI y fun j =>
  if f i j = true then tc G2 fun G3 vc => rdW G3 vc fun z => isI z fun l => Q G3 (.t (.fz (.bl (g j l)))) else Q G2 (.t (.fz (.bl false)))) := rfl
theorem dPar_ap (i j : Nat) (tA : DTA) {Ds G} : dPar i j tA Ds G = (tA G fun G1 as => match as with
  | [.d d1, .d d2] => i < G1.length ∧ j < G1.length ∧ Ds.nx ((G1.set i (some (.fz d1))).set j (some (.fz d2)))
  | _ => False) := rfl
theorem dListR1_ap (te : DTE) {G Q} : dListR1 te G Q = (te G fun G1 v => rdW G1 v fun d => isI d fun n => RgOk 0 n ∧ Q G1 (.t (.ls (upto 0 n.toNat)))) := rfl
theorem dNews_ap (t0 : T) (ta : DTA) {G Q} : dNews t0 ta G Q = (ta G fun G1 as => withD as fun ds => match ds with | [.int j] => -(2 ^ 62) ≤ j ∧ j ≤ 1000 ∧ Q G1 (.t (.ll (List.replicate j.toNat t0))) | _ => False) := rfl
theorem dKid_ap (ta tb : DTE) {G Q} : dKid ta tb G Q = (ta G fun G1 va => match va with
  | .pk i none => tb G1 fun G2 vb => rdW G2 vb fun y => isI y fun j => (match G2[i]? with
    | some (some (.ll ts)) => (match ixN ts.length j with
      | some k => (match ts[k]? with
        | some (.fz d) => Q G2 (.t (.fz d))
        | some _ => Q G2 (.pk i (some (.ix k)))
        | none => False)
      | none => False)
    | _ => False)
  | _ => False) := rfl
theorem dKidK_ap (k : Str) (ta : DTE) {G Q} : dKidK k ta G Q = (ta G fun G1 va => match va with
  | .pk i none => kidM G1[i]? k (fun d => Q G1 (.t (.fz d))) (Q G1 (.pk i (some (.ky (.inr k)))))
  | _ => False) := rfl
theorem dIxV_ap (i : Nat) (tb : DTE) {G Q} : dIxV i tb G Q = ((∃ t, G[i]? = some (some t)) ∧ tb G fun G1 vb => rdW G1 vb fun y => (match G1[i]? with
  | some (some t) => rdT t fun x => ixD x y fun r => Q G1 (.t r)
  | _ => False)) := rfl
theorem dDisp3_ap (k1 k2 k3 : Str) (t1 t2 t3 : DTE) {G Q} : dDisp3 k1 k2 k3 t1 t2 t3 G Q = (t1 G fun G1 v1 => fzW G1 v1 fun G1 d1 => t2 G1 fun G2 v2 => fzW G2 v2 fun G2 d2 => t3 G2 fun G3 v3 => match v3 with
  | .t t => Q G3 (.t (.dm [(.inr k1, .fz d1), (.inr k2, .fz d2), (.inr k3, t)]))
  | .pk _ _ => False) := rfl
theorem iDict_ap (te : DTE) {G Q} : iDict te G Q = (te G fun G1 v => fzW G1 v fun G2 d => match d with | .dK l => Q G2 (l.map fun p => keyD p.1) | .dT l => Q G2 (l.map fun p => .tup (p.1.map keyD)) | _ => False) := rfl
theorem dListR2_ap (ta tb : DTE) {G Q} : dListR2 ta tb G Q = (ta G fun G1 va => rdW G1 va fun x => isI x fun i => tb G1 fun G2 vb => rdW G2 vb fun y => isI y fun j => RgOk i j ∧ Q G2 (.t (.ls (upto i (j - i).toNat)))) := rfl
theorem dCallV_ap (mg : Str → Option Value) (i n : Nat) (T : List FT) (ta : DTA) {G Q} : dCallV mg i n T ta G Q = (∃ t ∈ T, G[i]? = some (some (.fz (.opq (fv mg t.x)))) ∧ dCall n t.F ta G Q) := rfl
theorem dRevL_ap (te : DTE) {G Q} : dRevL te G Q = (te G fun G1 v => rdW G1 v fun d => match d with | .lst l => Q G1 (.t (.ls l.reverse)) | _ => False) := rfl
theorem dRdV_ap (k : D2) (i : Nat) (tb : DTE) {G Q} : dRdV k i tb G Q = ((∃ t, G[i]? = some (some t) ∧ rdT t isLst) ∧ tb G fun G1 vb => rdW G1 vb fun y => match G1[i]? with
  | some (some t) => rdT t fun x => (isLst x ∧ k x y fun r => Q G1 (.t r))
  | _ => False) := rfl
theorem dCallB_ap (n : Nat) (F : FS) (ta : DTA) {G Q} : dCallB n F ta G Q = (ta G fun G1 as => as.length = n ∧ match lendE G1 as with
  | some p => (match flatTs p.1 with | some ds => F (ds.map .fz) fun _ t => ∃ b, t = .fz (.bl b) ∧ Q G1 (.t (.fz (.bl b))) | none => False)
  | none => False) := rfl
theorem dLenSet_ap (te : DTE) {G Q} : dLenSet te G Q = (te G fun G1 v => rdW G1 v fun d => match d with
  | .tup l => ∃ ns : List Int, l = ns.map .int ∧ ns.length ≤ 4000 ∧ ∀ ks : List Int, ks.Nodup → (∀ k, k ∈ ks ↔ k ∈ ns) → Q G1 (.t (.fz (.int (ks.length : Nat))))
  | _ => False) := rfl
theorem dFld_ap (C : Addr) (i : Nat) (f : Str) {G Q} : dFld C i f G Q = (match G[i]? with
  | some (some (.ins C' l)) => C' = C ∧ (match look l f with
    | some (.fz d) => Q G (.t (.fz d))
    | some _ => Q G (.pk i (some (.fd f)))
    | none => False)
  | _ => False) := rfl
theorem dFPut_ap (C : Addr) (i : Nat) (f : Str) (te : DTE) {Ds G} : dFPut C i f te Ds G = (te G fun G1 v => match v with
  | .t t => fputW C i f Ds.nx G1 t
  | .pk j p => fzW G1 (.pk j p) fun G2 d => fputW C i f Ds.nx G2 (.fz d)) := rfl
theorem dFPutZ_ap (C : Addr) (i : Nat) (f : Str) (te : DTE) {Ds G} : dFPutZ C i f te Ds G = (te G fun G1 v => fzW G1 v fun G2 d => fputW C i f Ds.nx G2 (.fz d)) := rfl
theorem dRetN_ap {Ds G} : dRetN  Ds G = (Ds.rt G (.t (.fz .non))) := rfl
theorem dMth_ap (C : Addr) (i : Nat) (m : Str) (n : Nat) (F : FS) (ta : DTA) {G Q} : dMth C i m n F ta G Q = ((match G[i]? with | some (some (.ins C' l)) => C' = C ∧ look l m = none | _ => False) ∧ dCall n F (dALend i ta) G Q) := rfl
theorem dMake_ap (C : Addr) (n : Nat) (F : FS) (ta : DTA) {G Q} : dMake C n F ta G Q = (ta G fun G1 as => withD as fun ds => ds.length + 1 = n ∧ F (.ins C [] :: ds.map .fz) fun outs t => (match outs with
  | [some t1] => t = .fz .non ∧ Q G1 (.t t1)
  | _ => False)) := rfl
theorem dAppNew_ap (to : DTE) {G Q} : dAppNew to G Q = (to G fun G1 v => match v with
  | .pk i p => (match atE G1 i p with | some (.ll ts) => ts.length < 10000000 ∧ Q (setE G1 i p (.ll (ts ++ [.ls []]))) (.t (.fz .non)) | _ => False)
  | .t _ => False) := rfl
theorem dLenLL_ap (te : DTE) {G Q} : dLenLL te G Q = (te G fun G1 v => match v with
  | .pk i p => (match atE G1 i p with | some (.ll ts) => Q G1 (.t (.fz (.int ts.length))) | _ => False)
  | .t _ => False) := rfl
theorem dNewLL_ap {G Q} : dNewLL  G Q = (Q G (.t (.ll []))) := rfl
theorem dLcQ_ap (ti : DTE) (g : DTG) (tt : DTT) (te : DTE) (us : List Nat) {G Q} : dLcQ ti g tt te us G Q = (ti G fun G1 v => match v with
  | .pk i p => i ∉ us ∧ (match atE G1 i p with
    | some (.ls ds) => ds.length ≤ 10000000 ∧ ∃ (px : D → Bool) (fx : D → D), (∀ d ∈ ds, g d (wipeE G1 us) fun G2 => atE G2 i p = some (.ls ds) ∧ wipeE G2 us = wipeE G1 us ∧ tt G2 fun _ b => b = px d ∧ (b = true → te G2 fun _ y => y = .t (.fz (fx d)))) ∧
      Q (unwipe G1 (wipeE G1 us) us) (.t (.ls ((ds.filter px).map fx)))
    | _ => False)
  | .t _ => False) := rfl
theorem iEnumTD_ap (ta : DTA) {G Q} : iEnumTD ta G Q = (ta G fun G1 as => withD as fun ds => match ds with | [.tup xs] => Q G1 (enumD 0 xs) | _ => False) := rfl
theorem dSortSet_ap (te : DTE) {G Q} : dSortSet te G Q = (te G fun G1 v => rdW G1 v fun d => match d with
  | .tup l => ∃ ns : List Int, l = ns.map .int ∧ ns.length < 64 ∧ ∀ ks : List Int, ks.Pairwise (· < ·) → (∀ k, k ∈ ks ↔ k ∈ ns) → Q G1 (.t (.ls (ks.map .int)))
  | _ => False) := rfl
theorem dMaxDef_ap (te : DTE) {G Q} : dMaxDef te G Q = (te G fun G1 v => rdW G1 v fun d => match d with
  | .tup l => ∃ ns : List Int, l = ns.map .int ∧ Q G1 (.t (.fz (.int (maxDef (-1) ns))))
  | _ => False) := rfl
end DL

/-! Rules by which simp runs a body, from the left. -/
namespace DL
open PySem PySem.Spec L2
section
variable {G : En} {R : T → Prop} {Q : En → Vl → Prop} {K : En → Prop} {i j : Int} {n : Nat} {l m : List D} {d x y : D} {b : Bool} {s u : Str} {t : T} {p : Option Stp}
theorem dCB1_ap (k : D1) (te : DTE) : dCB1 k te G Q = (te G fun G1 va => rdW G1 va fun x => k x fun t => Q G1 (.t t)) := rfl
theorem setW_t : setW G (.t t) n K = (n < G.length ∧ K (G.set n (some t))) := rfl
theorem setW_pk {j : Nat} : setW G (.pk j p) n K = fzW G (.pk j p) (fun G2 d => n < G2.length ∧ K (G2.set n (some (.fz d)))) := rfl
theorem isB_bl {k : Bool → Prop} : isB (.bl b) k = k b := rfl
theorem isI_int {k : Int → Prop} : isI (.int i) k = k i := rfl
theorem fzP_t {k : En → D → Prop} : fzP G (.t t) k = fzT t (k G) := rfl
theorem withD_nil {k : List D → Prop} : withD [] k = k [] := rfl
theorem withD_d {r : List AV} {k : List D → Prop} : withD (.d x :: r) k = withD r fun ds => k (x :: ds) := by
  unfold withD; simp only [avD]; cases avD r <;> rfl
theorem addD_i : addD (.int i) (.int j) R = R (.fz (.int (i + j))) := rfl
theorem addD_l : addD (.lst l) (.lst m) R = (l.length + m.length ≤ 10000000 ∧ R (.ls (l ++ m))) := rfl
theorem addD_t : addD (.tup l) (.tup m) R = (l.length + m.length ≤ 10000000 ∧ R (.fz (.tup (l ++ m)))) := rfl
theorem subD_i : subD (.int i) (.int j) R = R (.fz (.int (i - j))) := rfl
theorem mulD_i : mulD (.int i) (.int j) R = (mulOk i j ∧ R (.fz (.int (i * j)))) := rfl
theorem mulD_l : mulD (.lst l) (.int j) R = (-(2 ^ 63) ≤ j ∧ j < 2 ^ 63 ∧ l.length * j.toNat ≤ 10000000 ∧ R (.ls (repl j.toNat l))) := rfl
theorem mulD_t : mulD (.tup l) (.int j) R = (l ≠ [] ∧ 2 ≤ j ∧ j ≤ 1000 ∧ l.length ≤ 1000 ∧ R (.fz (.tup (repl j.toNat l)))) := rfl
theorem divD_i : divD (.int i) (.int j) R = ((0 < j ∧ j < 2 ^ 5000) ∧ R (.fz (.int (i / j)))) := rfl
theorem modD_i : modD (.int i) (.int j) R = (0 < j ∧ R (.fz (.int (i % j)))) := rfl
theorem powD_i : powD (.int i) (.int j) R = (CPow i j ∧ R (.fz (.int (i ^ j.toNat)))) := rfl
theorem negD_i : negD (.int i) R = R (.fz (.int (-i))) := rfl
theorem cmpI_i {f : Int → Int → Bool} : cmpI f (.int i) (.int j) R = R (.fz (.bl (f i j))) := rfl
theorem eqD_ap : eqD x y R = (x.shp ∧ y.shp ∧ R (.fz (.bl (D.eqv x y)))) := rfl
theorem neD_ap : neD x y R = (x.shp ∧ y.shp ∧ R (.fz (.bl (!D.eqv x y)))) := rfl
theorem inD_l : inD b x (.lst l) R = (x.shp ∧ (D.lst l).shp ∧ R (.fz (.bl (b != l.any fun z => D.eqv z x)))) := rfl
theorem inD_t : inD b x (.tup l) R = (x.shp ∧ (D.tup l).shp ∧ R (.fz (.bl (b != l.any fun z => D.eqv z x)))) := rfl
theorem inD_ki {k : List (Key × D)} : inD b (.int i) (.dK k) R = R (.fz (.bl (b != (look k (.inl i)).isSome))) := rfl
theorem inD_kt {k : List (List Key × D)} : inD b (.tup l) (.dT k) R = (match keysOf l with | some z => R (.fz (.bl (b != (look k z).isSome))) | none => False) := rfl
def getD' (o : Option D) (R : T → Prop) : Prop := match o with | some d => R (.fz d) | none => False
theorem getD'_some : getD' (some d) R = R (.fz d) := rfl
theorem ixD_l : ixD (.lst l) (.int i) R = getD' (atI l i) R := rfl
theorem ixD_t : ixD (.tup l) (.int i) R = getD' (atI l i) R := rfl
theorem ixD_s {c : List Int} : ixD (.scr c) (.int i) R = getD' ((atI c i).map .int) R := by
  show (match atI c i with | some n => R (.fz (.int n)) | none => False) = _
  cases atI c i <;> rfl
theorem ixD_ki {k : List (Key × D)} : ixD (.dK k) (.int i) R = getD' (look k (.inl i)) R := rfl
theorem ixD_kt {k : List (List Key × D)} : ixD (.dT k) (.tup l) R = (match keysOf l with | some z => getD' (look k z) R | none => False) := by
  show (match keysOf l with | some z => (match look k z with | some d => R (.fz d) | none => False) | none => False) = _
  cases keysOf l <;> rfl
theorem atI_lit {α : Type} (l : List α) (k : Nat) : atI l (k : Int) = l[k]? := by
  unfold atI
  by_cases h : k < l.length
  · have : ixN l.length (k : Int) = some k := by unfold ixN; rw [if_pos (by omega), if_pos (by omega)]; simp
    rw [this]; rfl
  · have : ixN l.length (k : Int) = none := by unfold ixN; rw [if_pos (by omega), if_neg (by omega)]
    rw [this, List.getElem?_eq_none (by omega)]; rfl
theorem atI_0 : atI (x :: l) 0 = some x := atI_lit (x :: l) 0
theorem atI_1 : atI (x :: y :: l) 1 = some y := atI_lit (x :: y :: l) 1
theorem atI_2 {z : D} : atI (x :: y :: z :: l) 2 = some z := atI_lit (x :: y :: z :: l) 2
theorem atI_3 {z w : D} : atI (x :: y :: z :: w :: l) 3 = some w := atI_lit (x :: y :: z :: w :: l) 3
theorem lenD_l : lenD [.lst l] R = R (.fz (.int l.length)) := rfl
theorem lenD_t : lenD [.tup l] R = R (.fz (.int l.length)) := rfl
theorem lenD_s {c : List Int} : lenD [.scr c] R = R (.fz (.int c.length)) := rfl
theorem min2D_i : min2D [.int i, .int j] R = R (.fz (.int (if j < i then j else i))) := rfl
theorem max2D_i : max2D [.int i, .int j] R = R (.fz (.int (if j > i then j else i))) := rfl
theorem absD_i : absD [.int i] R = R (.fz (.int (if i < 0 then -i else i))) := rfl
theorem intD_i : intD [.int i] R = R (.fz (.int i)) := rfl
theorem intD_b : intD [.bl b] R = R (.fz (.int (if b then 1 else 0))) := rfl
theorem listD_l : listD [.lst l] R = R (.ls l) := rfl
theorem listD_t : listD [.tup l] R = R (.ls l) := rfl
theorem tupleD_l : tupleD [.lst l] R = R (.fz (.tup l)) := rfl
theorem tupleD_t : tupleD [.tup l] R = R (.fz (.tup l)) := rfl
theorem dictTD_l : dictTD [.lst l] R = (match pairsT l with | some m => (m.map (·.1)).Nodup ∧ R (.dt m) | none => False) := rfl
theorem reprN_ap : reprN [x] R = (x.shw ∧ R (.fz (.str x.py.shown))) := rfl
theorem isinstD_ap {n : String} : isinstD [x, .opq (.ty n)] R = (match isiB x.tyn n with | some b => R (.fz (.bl b)) | none => False) := rfl
theorem sliceD_l {lo hi : Option Int} : sliceD lo hi (.lst l) R = R (.ls (cutL l lo hi)) := rfl
theorem sliceD_t {lo hi : Option Int} : sliceD lo hi (.tup l) R = R (.fz (.tup (cutL l lo hi))) := rfl
theorem oSome_ap' {te : DTE} {Q : En → Option Int → Prop} : oSome te G Q = (te G fun G1 v => rdW G1 v fun d => isI d fun i => Q G1 (some i)) := by
  rfl
variable {N : T → T → Prop}
theorem appendN_ap : appendN (.ls l) [x] N = (l.length < 10000000 ∧ N (.ls (l ++ [x])) (.fz .non)) := rfl
theorem extendN_ap : extendN (.ls l) [.lst m] N = (l.length + m.length ≤ 10000000 ∧ N (.ls (l ++ m)) (.fz .non)) := rfl
theorem popN_ap : popN (.ls l) [] N = ∃ x, l.getLast? = some x ∧ N (.ls l.dropLast) (.fz x) := rfl
theorem popAtN_ap : popAtN (.ls l) [.int i] N = ∃ (k : Nat) (x : D), i = k ∧ l[k]? = some x ∧ k < 2 ^ 62 ∧ N (.ls (l.eraseIdx k)) (.fz x) := rfl
theorem reverseN_ap : reverseN (.ls l) [] N = N (.ls l.reverse) (.fz .non) := rfl
def setL' (o : Option Nat) (l : List D) (d : D) (R : T → Prop) : Prop := match o with | some j => R (.ls (l.set j d)) | none => False
theorem setL'_some {j : Nat} : setL' (some j) l d R = R (.ls (l.set j d)) := rfl
theorem storeN_l : storeN (.ls l) (.int i) d R = setL' (ixN l.length i) l d R := rfl
theorem storeN_k {k : List (Key × D)} : storeN (.dk k) (.int i) d R = ((k.map (·.1)).Nodup ∧ k.length < 10000000 ∧ R (.dk (putL k (.inl i) d))) := rfl
theorem storeN_t {k : List (List Key × D)} : storeN (.dt k) (.tup l) d R = (match keysOf l with | some z => (k.map (·.1)).Nodup ∧ k.length < 10000000 ∧ R (.dt (putL k z d)) | none => False) := rfl
theorem ixN_lit {n k : Nat} (h : k < n) : ixN n (k : Int) = some k := by unfold ixN; rw [if_pos (by omega), if_pos (by omega)]; simp
theorem ixN_0 : ixN (n + 1) 0 = some 0 := ixN_lit (k := 0) (by omega)
theorem ixN_1 : ixN (n + 1 + 1) 1 = some 1 := ixN_lit (k := 1) (by omega)
theorem ixN_2 : ixN (n + 1 + 1 + 1) 2 = some 2 := ixN_lit (k := 2) (by omega)
end
end DL

/-! Which kind is which. -/
namespace DL
open PySem PySem.Spec L2
theorem isi_NoneType_bool : isiB "NoneType" "bool" = some false := by decide +kernel
theorem isi_NoneType_int : isiB "NoneType" "int" = some false := by decide +kernel
theorem isi_NoneType_str : isiB "NoneType" "str" = some false := by decide +kernel
theorem isi_NoneType_tuple : isiB "NoneType" "tuple" = some false := by decide +kernel
theorem isi_NoneType_list : isiB "NoneType" "list" = some false := by decide +kernel
theorem isi_bool_bool : isiB "bool" "bool" = some true := by decide +kernel
theorem isi_bool_int : isiB "bool" "int" = some true := by decide +kernel
theorem isi_bool_str : isiB "bool" "str" = some false := by decide +kernel
theorem isi_bool_tuple : isiB "bool" "tuple" = some false := by decide +kernel
theorem isi_bool_list : isiB "bool" "list" = some false := by decide +kernel
theorem isi_int_bool : isiB "int" "bool" = some false := by decide +kernel
theorem isi_int_int : isiB "int" "int" = some true := by decide +kernel
theorem isi_int_str : isiB "int" "str" = some false := by decide +kernel
theorem isi_int_tuple : isiB "int" "tuple" = some false := by decide +kernel
theorem isi_int_list : isiB "int" "list" = some false := by decide +kernel
theorem isi_str_bool : isiB "str" "bool" = some false := by decide +kernel
theorem isi_str_int : isiB "str" "int" = some false := by decide +kernel
theorem isi_str_str : isiB "str" "str" = some true := by decide +kernel
theorem isi_str_tuple : isiB "str" "tuple" = some false := by decide +kernel
theorem isi_str_list : isiB "str" "list" = some false := by decide +kernel
theorem isi_tuple_bool : isiB "tuple" "bool" = some false := by decide +kernel
theorem isi_tuple_int : isiB "tuple" "int" = some false := by decide +kernel
theorem isi_tuple_str : isiB "tuple" "str" = some false := by decide +kernel
theorem isi_tuple_tuple : isiB "tuple" "tuple" = some true := by decide +kernel
theorem isi_tuple_list : isiB "tuple" "list" = some false := by decide +kernel
theorem isi_list_bool : isiB "list" "bool" = some false := by decide +kernel
theorem isi_list_int : isiB "list" "int" = some false := by decide +kernel
theorem isi_list_str : isiB "list" "str" = some false := by decide +kernel
theorem isi_list_tuple : isiB "list" "tuple" = some false := by decide +kernel
theorem isi_list_list : isiB "list" "list" = some true := by decide +kernel
theorem isi_dict_bool : isiB "dict" "bool" = some false := by decide +kernel
theorem isi_dict_int : isiB "dict" "int" = some false := by decide +kernel
theorem isi_dict_str : isiB "dict" "str" = some false := by decide +kernel
theorem isi_dict_tuple : isiB "dict" "tuple" = some false := by decide +kernel
theorem isi_dict_list : isiB "dict" "list" = some false := by decide +kernel
theorem zipD_same : ∀ l : List D, zipD l l = l.map fun d => D.tup [d, d]
  | [] => rfl
  | d :: r => by simp [zipD, zipD_same r]
end DL

/-! Loops by an invariant, whatever comes behind them. -/
namespace DL
open PySem PySem.Spec L2
variable {g : DTG} {tb : DTS} {Ds : DEnds}
theorem forW_map' {α : Type} (f : α → D) (I : List α → En → Prop) (xs : List α) (fin : ∀ G, I xs G → Ds.nx G)
    (step : ∀ pre x post G (C : En → Prop), xs = pre ++ x :: post → I pre G → (∀ G', I (pre ++ [x]) G' → C G') → g (f x) G fun G2 => tb ⟨C, Ds.rt⟩ G2) :
    ∀ (r pre : List α) G, xs = pre ++ r → I pre G → forW g tb Ds (r.map f) G
  | [], pre, G, e, h => fin G (by rw [e, List.append_nil]; exact h)
  | x :: r, pre, G, e, h => step pre x r G _ e h fun G' h' => forW_map' f I xs fin step r (pre ++ [x]) G' (by rw [e]; simp) h'
theorem forW_map {α : Type} (f : α → D) (I : List α → En → Prop) (xs : List α) {G : En} (h0 : I [] G) (fin : ∀ G, I xs G → Ds.nx G)
    (step : ∀ pre x post G (C : En → Prop), xs = pre ++ x :: post → I pre G → (∀ G', I (pre ++ [x]) G' → C G') → g (f x) G fun G2 => tb ⟨C, Ds.rt⟩ G2) :
    forW g tb Ds (xs.map f) G := forW_map' f I xs fin step xs [] G rfl h0
theorem range_split {n : Nat} {pre : List Nat} {x : Nat} {post : List Nat} (e : List.range n = pre ++ x :: post) : x < n ∧ pre = List.range x := by
  have h : pre.length < n := by have := congrArg List.length e; simp at this; omega
  have h1 : (List.range n)[pre.length]? = some x := by rw [e]; simp
  rw [List.getElem?_range h] at h1
  have hx : pre.length = x := Option.some.inj h1
  subst hx
  refine ⟨h, ?_⟩
  have h2 := congrArg (List.take pre.length) e
  rw [List.take_left' rfl, List.take_range, Nat.min_eq_left (by omega)] at h2
  exact h2.symm
theorem forW_up (I : Nat → En → Prop) (lo : Int) (n : Nat) {G : En} (h0 : I 0 G) (fin : ∀ G, I n G → Ds.nx G)
    (step : ∀ (k : Nat) G (C : En → Prop), k < n → I k G → (∀ G', I (k + 1) G' → C G') → g (.int (lo + (k : Nat))) G fun G2 => tb ⟨C, Ds.rt⟩ G2) :
    forW g tb Ds (upto lo n) G := by
  unfold upto
  refine forW_map _ (fun pre G => I pre.length G) (List.range n) h0 (fun G h => fin G (by simpa using h)) fun pre x post G C e h c => ?_
  obtain ⟨hx, e2⟩ := range_split e
  have hl : pre.length = x := by rw [e2]; simp
  rw [hl] at h
  refine step x G C hx h fun G' h' => c G' ?_
  simp only [List.length_append, List.length_cons, List.length_nil, hl]
  exact h'
theorem compW_map' {α : Type} {tt : DTT} {te : DTE} {vs : List Nat} {Q : En → List D → Prop} (f : α → D) (I : List α → List D → En → Prop) (xs : List α) (fin : ∀ G acc, I xs acc G → Q G acc)
    (step : ∀ pre x post acc G (C : List D → En → Prop), xs = pre ++ x :: post → I pre acc G → (∀ acc' G', I (pre ++ [x]) acc' G' → C acc' G') →
      acc.length < 10000000 ∧ g (f x) (wipeE G vs) fun G1 => tt G1 fun G2 b => if b = true then te G2 fun G3 v => fzW G3 v fun G4 d => C (acc ++ [d]) G4 else C acc G2) :
    ∀ (r pre : List α) acc G, xs = pre ++ r → I pre acc G → compW g tt te vs Q (r.map f) acc G
  | [], pre, acc, G, e, h => fin G acc (by rw [e, List.append_nil]; exact h)
  | x :: r, pre, acc, G, e, h => step pre x r acc G (fun acc G => compW g tt te vs Q (r.map f) acc G) e h fun acc' G' h' => compW_map' f I xs fin step r (pre ++ [x]) acc' G' (by rw [e]; simp) h'
theorem compW_map {α : Type} {tt : DTT} {te : DTE} {vs : List Nat} {Q : En → List D → Prop} {G : En} (f : α → D) (I : List α → List D → En → Prop) (xs : List α) (h0 : I [] [] G) (fin : ∀ G acc, I xs acc G → Q G acc)
    (step : ∀ pre x post acc G (C : List D → En → Prop), xs = pre ++ x :: post → I pre acc G → (∀ acc' G', I (pre ++ [x]) acc' G' → C acc' G') →
      acc.length < 10000000 ∧ g (f x) (wipeE G vs) fun G1 => tt G1 fun G2 b => if b = true then te G2 fun G3 v => fzW G3 v fun G4 d => C (acc ++ [d]) G4 else C acc G2) :
    compW g tt te vs Q (xs.map f) [] G := compW_map' f I xs fin step xs [] [] G rfl h0
theorem compW_up {tt : DTT} {te : DTE} {vs : List Nat} {Q : En → List D → Prop} (I : Nat → List D → En → Prop) (lo : Int) (n : Nat) {G : En} (h0 : I 0 [] G) (fin : ∀ G acc, I n acc G → Q G acc)
    (step : ∀ (k : Nat) acc G (C : List D → En → Prop), k < n → I k acc G → (∀ acc' G', I (k + 1) acc' G' → C acc' G') →
      acc.length < 10000000 ∧ g (.int (lo + (k : Nat))) (wipeE G vs) fun G1 => tt G1 fun G2 b => if b = true then te G2 fun G3 v => fzW G3 v fun G4 d => C (acc ++ [d]) G4 else C acc G2) :
    compW g tt te vs Q (upto lo n) [] G := by
  unfold upto
  refine compW_map _ (fun pre acc G => I pre.length acc G) (List.range n) h0 (fun G acc h => fin G acc (by simpa using h)) fun pre x post acc G C e h c => ?_
  obtain ⟨hx, e2⟩ := range_split e
  have hl : pre.length = x := by rw [e2]; simp
  rw [hl] at h
  refine step x acc G C hx h fun acc' G' h' => c acc' G' ?_
  simp only [List.length_append, List.length_cons, List.length_nil, hl]
  exact h'
/-- a comprehension that touches nothing else: those that pass, each as its thing -/
theorem compW_pure {α : Type} {tt : DTT} {te : DTE} {vs : List Nat} {Q : En → List D → Prop} {G : En} (f : α → D) (xs : List α) (p : α → Bool) (h : α → D) (J : En → Prop) (h0 : J G) (hn : xs.length ≤ 10000000)
    (fin : ∀ G, J G → Q G ((xs.filter p).map h))
    (step : ∀ x G (C : Bool → List D → En → Prop) (acc : List D), x ∈ xs → J G → (∀ G', J G' → p x = true → C true (acc ++ [h x]) G') → (∀ G', J G' → p x = false → C false acc G') →
      g (f x) (wipeE G vs) fun G1 => tt G1 fun G2 b => if b = true then te G2 fun G3 v => fzW G3 v fun G4 d => C true (acc ++ [d]) G4 else C false acc G2) :
    compW g tt te vs Q (xs.map f) [] G := by
  refine compW_map f (fun pre acc G => acc = (pre.filter p).map h ∧ J G) xs ⟨rfl, h0⟩ (fun G acc e => by rw [e.1]; exact fin G e.2) fun pre x post acc G C e i c => ?_
  obtain ⟨i, j⟩ := i
  subst i
  refine ⟨?_, step x G (fun _ acc G => C acc G) _ (by rw [e]; simp) j (fun G' j' q => c _ _ ⟨by rw [List.filter_append]; simp [q], j'⟩) (fun G' j' q => c _ _ ⟨by rw [List.filter_append]; simp [q], j'⟩)⟩
  have h1 := List.length_filter_le p pre
  have h2 : pre.length < xs.length := by rw [e]; simp
  rw [List.length_map]; omega
theorem upto_map (lo : Int) (n : Nat) : upto lo n = (List.range n).map fun i : Nat => D.int (lo + (i : Nat)) := rfl
theorem upto_zero (n : Nat) : upto 0 n = (List.range n).map fun (q : Nat) => D.int q := by
  unfold upto
  exact List.map_congr_left fun i _ => by rw [Int.zero_add]
theorem forW_enum' {α : Type} (f : α → D) (I : List α → En → Prop) (xs : List α) (fin : ∀ G, I xs G → Ds.nx G)
    (step : ∀ pre x post G (C : En → Prop), xs = pre ++ x :: post → I pre G → (∀ G', I (pre ++ [x]) G' → C G') → g (.tup [.int (pre.length : Nat), f x]) G fun G2 => tb ⟨C, Ds.rt⟩ G2) :
    ∀ (r pre : List α) G (k : Nat), k = pre.length → xs = pre ++ r → I pre G → forW g tb Ds (enumD k (r.map f)) G
  | [], pre, G, k, _, e, h => fin G (by rw [e, List.append_nil]; exact h)
  | x :: r, pre, G, k, ek, e, h => by
    subst ek
    exact step pre x r G _ e h fun G' h' => forW_enum' f I xs fin step r (pre ++ [x]) G' (pre.length + 1) (by simp) (by rw [e]; simp) h'
theorem forW_enum {α : Type} (f : α → D) (I : List α → En → Prop) (xs : List α) {G : En} (h0 : I [] G) (fin : ∀ G, I xs G → Ds.nx G)
    (step : ∀ pre x post G (C : En → Prop), xs = pre ++ x :: post → I pre G → (∀ G', I (pre ++ [x]) G' → C G') → g (.tup [.int (pre.length : Nat), f x]) G fun G2 => tb ⟨C, Ds.rt⟩ G2) :
    forW g tb Ds (enumD 0 (xs.map f)) G := forW_enum' f I xs fin step xs [] G 0 rfl rfl h0
end DL

/-! What repr and == are asked of. -/
namespace DL
open PySem PySem.Spec L2

/-- data of small numbers, c signs at most, k deep -/
structure Fine (d : D) (k c : Nat) : Prop where
  lay : d.py.canLay0 = true
  sho : d.py.showable = true
  nod : d.py.hasDict = false
  ok : PyData.strOk d.py.shown = true
  dep : d.py.depth ≤ k
  len : d.py.shown.length ≤ c
theorem strOk_append (a b : Str) : PyData.strOk (a ++ b) = (PyData.strOk a && PyData.strOk b) := by
  show (a.cps ++ b.cps).all _ = _
  rw [Array.all_append]; rfl
theorem textFrom_ok : ∀ (ts : List Str) (k : Nat) (acc : Str), PyData.strOk acc = true → (∀ t ∈ ts, PyData.strOk t = true) → PyData.strOk (textFrom k acc ts) = true
  | [], _, _, h, _ => h
  | t :: r, k, acc, h, g => textFrom_ok r (k + 1) _ (by
      rw [strOk_append, strOk_append, h, g t (by simp)]
      split <;> decide +kernel) fun u m => g u (by simp [m])
theorem join_ok : ∀ (ts : List Str), (∀ t ∈ ts, PyData.strOk t = true) → PyData.strOk (Str.join ", " ts) = true
  | [], _ => by decide +kernel
  | [x], g => g x (by simp)
  | x :: y :: r, g => by
    have ih := join_ok (y :: r) fun t m => g t (by simp [m])
    show PyData.strOk (x ++ ", " ++ Str.join ", " (y :: r)) = true
    rw [strOk_append, strOk_append, ih, g x (by simp)]
    decide +kernel
theorem shownAll_map : ∀ l : List D, PyData.shownAll (D.pys l) = l.map fun d => d.py.shown
  | [] => rfl
  | d :: r => by simp [D.pys, PyData.shownAll, shownAll_map r]
theorem piled_le {ts : List Str} {c : Nat} (h : ∀ t ∈ ts, t.length ≤ c) : piled ts ≤ ts.length * (c + 2) := by
  induction ts with
  | nil => simp [piled_nil]
  | cons t r ih =>
    have h1 := ih fun t m => h t (by simp [m])
    have h2 := h t (by simp)
    rw [piled_cons, List.length_cons, Nat.add_mul]; omega
theorem listText_le (ts : List Str) : (listText ts).length ≤ piled ts + 2 := by
  cases ts with
  | nil => decide +kernel
  | cons t r =>
    have h := textFrom_length_pos r 1 (("[" : Str) ++ (if (0 : Nat) > 0 then ", " else "" : String) ++ t) (Nat.succ_pos 0)
    have e : ((("[" : Str) ++ (if (0 : Nat) > 0 then ", " else "" : String) ++ t)).length = 1 + t.length := by
      rw [strLen_append, strLen_append]; rfl
    have hX : (listText (t :: r)).length = (textFrom 0 "[" (t :: r)).length + 1 := by
      show (textFrom 0 "[" (t :: r) ++ "]").length = _
      rw [strLen_append]; rfl
    have hY : (textFrom 0 "[" (t :: r)).length = (textFrom 1 (("[" : Str) ++ (if (0 : Nat) > 0 then ", " else "" : String) ++ t) r).length := rfl
    rw [hX, hY, h, e, piled_cons]; omega
theorem tupleText_le (ts : List Str) : (tupleText ts).length ≤ piled ts + 3 := by
  unfold tupleText
  rw [strLen_append, strLen_append]
  have h0 : (Str.join ", " ts).length ≤ piled ts := by
    cases ts with
    | nil => decide +kernel
    | cons t r => have := join_length_add (t :: r) (by simp); omega
  have h1 : (("(" : Str)).length = 1 := rfl
  have h2 : ((if ts.length == 1 then ",)" else ")" : String) : Str).length ≤ 2 := by split <;> decide +kernel
  omega
theorem pys_all {P : PyData → Bool} {Ps : List PyData → Bool} (h0 : Ps [] = true) (h1 : ∀ d r, Ps (d :: r) = (P d && Ps r)) : ∀ l : List D, (∀ d ∈ l, P d.py = true) → Ps (D.pys l) = true
  | [], _ => h0
  | d :: r, g => by rw [show D.pys (d :: r) = d.py :: D.pys r from rfl, h1, g d (by simp), pys_all h0 h1 r fun x m => g x (by simp [m])]; rfl
theorem pys_noDict : ∀ l : List D, (∀ d ∈ l, d.py.hasDict = false) → PyData.hasDictAll (D.pys l) = false
  | [], _ => rfl
  | d :: r, g => by simp [D.pys, PyData.hasDictAll, g d (by simp), pys_noDict r fun x m => g x (by simp [m])]
theorem pys_depth {k : Nat} : ∀ l : List D, (∀ d ∈ l, d.py.depth ≤ k) → PyData.depthAll (D.pys l) ≤ k
  | [], _ => Nat.zero_le _
  | d :: r, g => by
    have h1 := g d (by simp)
    have h2 := pys_depth r fun x m => g x (by simp [m])
    simp only [D.pys, PyData.depthAll]; omega
theorem fine_lst {l : List D} {k c : Nat} (g : ∀ d ∈ l, Fine d k c) : Fine (.lst l) (k + 1) (l.length * (c + 2) + 3) where
  lay := pys_all (P := PyData.canLay0) (Ps := PyData.canLayAll0) rfl (fun _ _ => rfl) l fun d m => (g d m).lay
  sho := pys_all (P := PyData.showable) (Ps := PyData.showableAll) rfl (fun _ _ => rfl) l fun d m => (g d m).sho
  nod := pys_noDict l fun d m => (g d m).nod
  ok := by
    show PyData.strOk (listText (PyData.shownAll (D.pys l))) = true
    rw [shownAll_map]; unfold listText
    rw [strOk_append, textFrom_ok _ _ _ (by decide +kernel) fun t m => by obtain ⟨d, md, e⟩ := List.mem_map.mp m; rw [← e]; exact (g d md).ok]
    decide +kernel
  dep := by have := pys_depth l fun d m => (g d m).dep; show PyData.depthAll _ + 1 ≤ _; omega
  len := by
    show (listText (PyData.shownAll (D.pys l))).length ≤ _
    rw [shownAll_map]
    have h1 := listText_le (l.map fun d => d.py.shown)
    have h2 := piled_le (ts := l.map fun d => d.py.shown) (c := c) fun t m => by obtain ⟨d, md, e⟩ := List.mem_map.mp m; rw [← e]; exact (g d md).len
    rw [List.length_map] at h2; omega
theorem fine_tup {l : List D} {k c : Nat} (g : ∀ d ∈ l, Fine d k c) : Fine (.tup l) (k + 1) (l.length * (c + 2) + 3) where
  lay := pys_all (P := PyData.canLay0) (Ps := PyData.canLayAll0) rfl (fun _ _ => rfl) l fun d m => (g d m).lay
  sho := pys_all (P := PyData.showable) (Ps := PyData.showableAll) rfl (fun _ _ => rfl) l fun d m => (g d m).sho
  nod := pys_noDict l fun d m => (g d m).nod
  ok := by
    show PyData.strOk (tupleText (PyData.shownAll (D.pys l))) = true
    rw [shownAll_map]; unfold tupleText
    rw [strOk_append, strOk_append, join_ok _ fun t m => by obtain ⟨d, md, e⟩ := List.mem_map.mp m; rw [← e]; exact (g d md).ok]
    split <;> decide +kernel
  dep := by have := pys_depth l fun d m => (g d m).dep; show PyData.depthAll _ + 1 ≤ _; omega
  len := by
    show (tupleText (PyData.shownAll (D.pys l))).length ≤ _
    rw [shownAll_map]
    have h1 := tupleText_le (l.map fun d => d.py.shown)
    have h2 := piled_le (ts := l.map fun d => d.py.shown) (c := c) fun t m => by obtain ⟨d, md, e⟩ := List.mem_map.mp m; rw [← e]; exact (g d md).len
    rw [List.length_map] at h2; omega
theorem fine_int_all : ∀ n : Fin 100, (PyData.strOk (PyData.shown (.int (n.val : Nat))) && decide ((PyData.shown (.int (n.val : Nat))).length ≤ 2) && PyData.showable (.int (n.val : Nat))) = true := by decide +kernel
theorem fine_int {n : Nat} (h : n < 100) : Fine (.int n) 0 2 := by
  have := fine_int_all ⟨n, h⟩
  simp only [Bool.and_eq_true] at this
  exact ⟨rfl, this.2, rfl, this.1.1, Nat.le_refl _, of_decide_eq_true this.1.2⟩
theorem Fine.mono {d : D} {k c k' c' : Nat} (f : Fine d k c) (h1 : k ≤ k') (h2 : c ≤ c') : Fine d k' c' := ⟨f.lay, f.sho, f.nod, f.ok, Nat.le_trans f.dep h1, Nat.le_trans f.len h2⟩
theorem Fine.shw {d : D} {k c : Nat} (f : Fine d k c) (h1 : k ≤ 60) (h2 : c ≤ 2 ^ 24) : d.shw := ⟨f.lay, f.sho, f.nod, Nat.le_trans f.dep h1, Nat.le_trans f.len h2⟩
theorem Fine.shp {d : D} {k c : Nat} (f : Fine d k c) (h1 : k ≤ 60) : d.shp := by
  show (d.py.canLay0 && decide (d.py.depth ≤ 64)) = true
  have := f.dep
  rw [f.lay, decide_eq_true (by omega)]; rfl
theorem Fine.sshp {d : D} {k c : Nat} (f : Fine d k c) : (D.str d.py.shown).shp := by
  show (PyData.strOk d.py.shown && _) = true
  rw [f.ok]; rfl
theorem shp_int (i : Int) : (D.int i).shp := rfl
theorem eqv_str (a : Str) : D.eqv (.str a) (.str a) = true := by
  show (a == a) = true
  exact beq_self_eq_true a
theorem eqv_int (a b : Int) : D.eqv (.int a) (.int b) = decide (a = b) := by
  show (a == b) = _
  by_cases h : a = b <;> simp [h]
theorem eqv_nat (a b : Nat) : D.eqv (.int a) (.int b) = decide (a = b) := by
  rw [eqv_int]; by_cases h : a = b
  · simp [h]
  · have h2 : ¬ (a : Int) = (b : Int) := by omega
    simp [h, h2]
mutual
theorem eqv_rfl : ∀ d : D, d.py.hasDict = false → D.eqv d d = true
  | .non, _ => rfl
  | .bl b, _ => by show (b == b) = true; simp
  | .int i, _ => by rw [eqv_int]; simp
  | .str x, _ => eqv_str x
  | .tup l, h => eqvs_rfl l h
  | .lst l, h => eqvs_rfl l h
  | .opq _, h => by cases h
  | .dK _, h => by cases h
  | .dT _, h => by cases h
  | .scr _, h => by cases h
theorem eqvs_rfl : ∀ l : List D, PyData.hasDictAll (D.pys l) = false → PyData.eqvAll (D.pys l) (D.pys l) = true
  | [], _ => rfl
  | d :: r, h => by
    simp only [D.pys, PyData.hasDictAll, Bool.or_eq_false_iff] at h
    have h1 : PyData.eqv d.py d.py = true := eqv_rfl d h.1
    simp [D.pys, PyData.eqvAll, h1, eqvs_rfl r h.2]
end
end DL

/-! Typed reading of data: encodings, operators. -/
namespace DL
open PySem PySem.Spec L2
/-! ### encodings -/
abbrev eN (_ : Unit) : D := .non
abbrev eD (d : D) : D := d
abbrev eP1 {α : Type} (ea : α → D) (x : α) : D := .tup [ea x]
abbrev eP {α β : Type} (ea : α → D) (eb : β → D) (x : α × β) : D := .tup [ea x.1, eb x.2]
abbrev eP3 {α β γ : Type} (ea : α → D) (eb : β → D) (ec : γ → D) (x : α × β × γ) : D := .tup [ea x.1, eb x.2.1, ec x.2.2]
abbrev eP4 {α β γ δ : Type} (ea : α → D) (eb : β → D) (ec : γ → D) (ed : δ → D) (x : α × β × γ × δ) : D := .tup [ea x.1, eb x.2.1, ec x.2.2.1, ed x.2.2.2]
abbrev eL {α : Type} (e : α → D) (l : List α) : D := .lst (l.map e)
abbrev eU {α : Type} (e : α → D) (l : List α) : D := .tup (l.map e)
def eO {α : Type} (e : α → D) : Option α → D
  | none => .non
  | some a => e a
abbrev eMI {α : Type} (e : α → D) (m : List (Int × α)) : D := .dK (m.map fun p => (Sum.inl p.1, e p.2))
abbrev eMT {κ α : Type} (ek : κ → List Key) (e : α → D) (m : List (κ × α)) : D := .dT (m.map fun p => (ek p.1, e p.2))
abbrev kI (i : Int) : Key := Sum.inl i
abbrev kP (p : Int × Int) : List Key := [Sum.inl p.1, Sum.inl p.2]
abbrev kU (l : List Int) : List Key := l.map Sum.inl
abbrev tK {α : Type} (e : α → D) (m : List (Int × α)) : T := .dk (m.map fun p => (Sum.inl p.1, e p.2))
abbrev tLs {α : Type} (e : α → D) (l : List α) : T := .ls (l.map e)
/-- the encoding tells things apart and may be compared -/
structure EncOk {α : Type} [DecidableEq α] (e : α → D) (k : Nat) : Prop where
  lay : ∀ a, (e a).py.canLay0 = true
  dep : ∀ a, (e a).py.depth ≤ k
  eq : ∀ a b, D.eqv (e a) (e b) = decide (a = b)
theorem eqv_int' (a b : Int) : D.eqv (.int a) (.int b) = decide (a = b) := by
  show (a == b) = _
  by_cases h : a = b <;> simp [h]
theorem EncOk.shp {α : Type} [DecidableEq α] {e : α → D} {k : Nat} (h : EncOk e k) (hk : k ≤ 64) (a : α) : (e a).shp := by
  show (_ && decide _) = true
  rw [h.lay a, decide_eq_true (Nat.le_trans (h.dep a) hk)]; rfl
theorem ok_int : EncOk D.int 0 := ⟨fun _ => rfl, fun _ => Nat.le_refl _, eqv_int'⟩
theorem ok_bl : EncOk D.bl 0 := ⟨fun _ => rfl, fun _ => Nat.le_refl _, fun a b => by cases a <;> cases b <;> decide +kernel⟩
theorem ok_non : EncOk eN 0 := ⟨fun _ => rfl, fun _ => Nat.le_refl _, fun a b => by cases a; cases b; decide +kernel⟩
theorem eqv_tup (l m : List D) : D.eqv (.tup l) (.tup m) = PyData.eqvAll (D.pys l) (D.pys m) := rfl
theorem eqv_lst (l m : List D) : D.eqv (.lst l) (.lst m) = PyData.eqvAll (D.pys l) (D.pys m) := rfl
theorem eqvAll_cons (d d' : D) (r r' : List D) : PyData.eqvAll (D.pys (d :: r)) (D.pys (d' :: r')) = (D.eqv d d' && PyData.eqvAll (D.pys r) (D.pys r')) := rfl
section
variable {α β γ δ : Type} [DecidableEq α] [DecidableEq β] [DecidableEq γ] [DecidableEq δ] {ea : α → D} {eb : β → D} {ec : γ → D} {ed : δ → D} {k j i l : Nat}
theorem ok_pair (ha : EncOk ea k) (hb : EncOk eb j) : EncOk (eP ea eb) (max k j + 1) where
  lay x := by
    show (_ && (_ && true)) = true
    rw [ha.lay, hb.lay]; rfl
  dep x := by
    show max _ (max _ 0) + 1 ≤ _
    have := ha.dep x.1; have := hb.dep x.2; omega
  eq x y := by
    rw [eqv_tup, eqvAll_cons, eqvAll_cons, ha.eq, hb.eq]
    show (_ && (_ && true)) = _
    rw [Bool.eq_iff_iff]
    simp [Prod.ext_iff]
theorem ok_trip (ha : EncOk ea k) (hb : EncOk eb j) (hc : EncOk ec i) : EncOk (eP3 ea eb ec) (max k (max j i) + 1) where
  lay x := by
    show (_ && (_ && (_ && true))) = true
    rw [ha.lay, hb.lay, hc.lay]; rfl
  dep x := by
    show max _ (max _ (max _ 0)) + 1 ≤ _
    have := ha.dep x.1; have := hb.dep x.2.1; have := hc.dep x.2.2; omega
  eq x y := by
    rw [eqv_tup, eqvAll_cons, eqvAll_cons, eqvAll_cons, ha.eq, hb.eq, hc.eq]
    show (_ && (_ && (_ && true))) = _
    rw [Bool.eq_iff_iff]
    simp [Prod.ext_iff]
theorem ok_quad (ha : EncOk ea k) (hb : EncOk eb j) (hc : EncOk ec i) (hd : EncOk ed l) : EncOk (eP4 ea eb ec ed) (max k (max j (max i l)) + 1) where
  lay x := by
    show (_ && (_ && (_ && (_ && true)))) = true
    rw [ha.lay, hb.lay, hc.lay, hd.lay]; rfl
  dep x := by
    show max _ (max _ (max _ (max _ 0))) + 1 ≤ _
    have := ha.dep x.1; have := hb.dep x.2.1; have := hc.dep x.2.2.1; have := hd.dep x.2.2.2; omega
  eq x y := by
    rw [eqv_tup, eqvAll_cons, eqvAll_cons, eqvAll_cons, eqvAll_cons, ha.eq, hb.eq, hc.eq, hd.eq]
    show (_ && (_ && (_ && (_ && true)))) = _
    rw [Bool.eq_iff_iff]
    simp [Prod.ext_iff]
theorem all_lay (ha : EncOk ea k) : ∀ l : List α, PyData.canLayAll0 (D.pys (l.map ea)) = true
  | [] => rfl
  | x :: r => by
    show (_ && _) = true
    rw [ha.lay]; exact all_lay ha r
theorem all_dep (ha : EncOk ea k) : ∀ l : List α, PyData.depthAll (D.pys (l.map ea)) ≤ k
  | [] => Nat.zero_le _
  | x :: r => by
    show max _ _ ≤ _
    have h1 := ha.dep x; have h2 := all_dep ha r
    exact Nat.max_le.mpr ⟨h1, h2⟩
theorem all_eq (ha : EncOk ea k) : ∀ l m : List α, PyData.eqvAll (D.pys (l.map ea)) (D.pys (m.map ea)) = decide (l = m)
  | [], [] => by simp [D.pys, PyData.eqvAll]
  | [], _ :: _ => by simp [D.pys, PyData.eqvAll]
  | _ :: _, [] => by simp [D.pys, PyData.eqvAll]
  | x :: r, y :: s => by
    rw [List.map_cons, List.map_cons, eqvAll_cons, ha.eq, all_eq ha r s, Bool.eq_iff_iff]
    simp
theorem ok_L (ha : EncOk ea k) : EncOk (eL ea) (k + 1) where
  lay l := all_lay ha l
  dep l := Nat.succ_le_succ (all_dep ha l)
  eq l m := by rw [eqv_lst]; exact all_eq ha l m
theorem ok_U (ha : EncOk ea k) : EncOk (eU ea) (k + 1) where
  lay l := all_lay ha l
  dep l := Nat.succ_le_succ (all_dep ha l)
  eq l m := by rw [eqv_tup]; exact all_eq ha l m
theorem any_enc (ha : EncOk ea k) (l : List α) (x : α) : ((l.map ea).any fun z => D.eqv z (ea x)) = decide (x ∈ l) := by
  rw [List.any_map, Bool.eq_iff_iff, List.any_eq_true, decide_eq_true_iff]
  constructor
  · rintro ⟨y, m, e⟩
    have e : D.eqv (ea y) (ea x) = true := e
    rw [ha.eq, decide_eq_true_iff] at e
    exact e ▸ m
  · intro m
    exact ⟨x, m, by show D.eqv (ea x) (ea x) = true; rw [ha.eq]; simp⟩
/-- an int or None -/
theorem ok_OI : EncOk (eO D.int) 0 where
  lay a := by cases a <;> rfl
  dep a := by cases a <;> exact Nat.le_refl _
  eq a b := by
    cases a <;> cases b
    · decide +kernel
    · rfl
    · rfl
    · show D.eqv (.int _) (.int _) = _
      rw [eqv_int']; simp
end
/-! ### plain functions -/
def irange (lo hi : Int) : List Int := (List.range (hi - lo).toNat).map fun i => lo + (i : Nat)
def ienum {α : Type} (l : List α) : List (Int × α) := l.zipIdx.map fun p => ((p.2 : Int), p.1)
/-- the item under an index -/
def gi {α : Type} [Inhabited α] (l : List α) (i : Int) : α := (atI l i).getD default
abbrev InR {α : Type} (l : List α) (i : Int) : Prop := -(l.length : Int) ≤ i ∧ i < l.length
def gk {κ α : Type} [DecidableEq κ] [Inhabited α] (m : List (κ × α)) (k : κ) : α := (look m k).getD default
def hk {κ α : Type} [DecidableEq κ] (m : List (κ × α)) (k : κ) : Bool := (look m k).isSome
def sortI (l : List Int) : List Int := l.mergeSort fun a b => decide (a ≤ b)
def lePb (a b : Int × Int) : Bool := decide (a.1 < b.1) || (decide (a.1 = b.1) && decide (a.2 ≤ b.2))
def sortP (l : List (Int × Int)) : List (Int × Int) := l.mergeSort lePb
def maxL : List Int → Int
  | [] => 0
  | [x] => x
  | x :: r => max x (maxL r)
def minL : List Int → Int
  | [] => 0
  | [x] => x
  | x :: r => min x (minL r)
instance : Inhabited D := ⟨.non⟩
theorem lePb_iff (a b : Int × Int) : lePb a b = true ↔ leP a b := by
  unfold lePb leP
  simp only [Bool.or_eq_true, Bool.and_eq_true, decide_eq_true_eq]
theorem sortI_perm (l : List Int) : (sortI l).Perm l := List.mergeSort_perm l _
theorem sortI_sorted (l : List Int) : (sortI l).Pairwise (· ≤ ·) := by
  refine (List.pairwise_mergeSort (le := fun a b : Int => decide (a ≤ b)) (fun a b c h1 h2 => ?_) (fun a b => ?_) l).imp fun h => of_decide_eq_true h
  · simp only [decide_eq_true_eq] at *; omega
  · simp only [Bool.or_eq_true, decide_eq_true_eq]; omega
theorem sortI_of {l m : List Int} (h : m.Perm l) (s : m.Pairwise (· ≤ ·)) : m = sortI l :=
  List.Perm.eq_of_pairwise (fun a b _ _ h1 h2 => by omega) s (sortI_sorted l) (h.trans (sortI_perm l).symm)
theorem sortP_perm (l : List (Int × Int)) : (sortP l).Perm l := List.mergeSort_perm l _
theorem sortP_sorted (l : List (Int × Int)) : (sortP l).Pairwise leP := by
  refine (List.pairwise_mergeSort (le := lePb) (fun a b c h1 h2 => ?_) (fun a b => ?_) l).imp fun h => (lePb_iff _ _).mp h
  · rw [lePb_iff] at *; unfold leP at *; omega
  · rw [Bool.or_eq_true, lePb_iff, lePb_iff]; unfold leP; omega
theorem sortP_of {l m : List (Int × Int)} (h : m.Perm l) (s : m.Pairwise leP) : m = sortP l :=
  List.Perm.eq_of_pairwise (fun a b _ _ h1 h2 => by unfold leP at *; exact Prod.ext (by omega) (by omega)) s (sortP_sorted l) (h.trans (sortP_perm l).symm)
theorem maxL_spec : ∀ {l : List Int}, l ≠ [] → maxL l ∈ l ∧ ∀ y ∈ l, y ≤ maxL l
  | [], h => absurd rfl h
  | [x], _ => ⟨by simp [maxL], by simp [maxL]⟩
  | x :: y :: r, _ => by
    obtain ⟨h1, h2⟩ := maxL_spec (l := y :: r) (by simp)
    have e0 : maxL (x :: y :: r) = max x (maxL (y :: r)) := rfl
    rw [e0]
    generalize maxL (y :: r) = m at h1 h2
    refine ⟨?_, fun z hz => ?_⟩
    · rcases Int.le_total x m with h | h
      · rw [Int.max_eq_right h]; exact List.mem_cons_of_mem _ h1
      · rw [Int.max_eq_left h]; simp
    · rcases List.mem_cons.mp hz with e | hz
      · omega
      · have := h2 z hz; omega
theorem minL_spec : ∀ {l : List Int}, l ≠ [] → minL l ∈ l ∧ ∀ y ∈ l, minL l ≤ y
  | [], h => absurd rfl h
  | [x], _ => ⟨by simp [minL], by simp [minL]⟩
  | x :: y :: r, _ => by
    obtain ⟨h1, h2⟩ := minL_spec (l := y :: r) (by simp)
    have e0 : minL (x :: y :: r) = min x (minL (y :: r)) := rfl
    rw [e0]
    generalize minL (y :: r) = m at h1 h2
    refine ⟨?_, fun z hz => ?_⟩
    · rcases Int.le_total x m with h | h
      · rw [Int.min_eq_left h]; simp
      · rw [Int.min_eq_right h]; exact List.mem_cons_of_mem _ h1
    · rcases List.mem_cons.mp hz with e | hz
      · omega
      · have := h2 z hz; omega
def inl {α : Type} [DecidableEq α] (x : α) (l : List α) : Bool := decide (x ∈ l)
theorem inl_iff {α : Type} [DecidableEq α] {x : α} {l : List α} : inl x l = true ↔ x ∈ l := by unfold inl; exact decide_eq_true_iff
theorem inl_not {α : Type} [DecidableEq α] {x : α} {l : List α} : inl x l = false ↔ x ∉ l := by unfold inl; exact decide_eq_false_iff_not
/-! ### operators over data, typed -/
section
variable {α β κ : Type} {e : α → D} {eb : β → D} {i j : Int} {R : T → Prop}
theorem k_add : ∀ R : T → Prop, R (.fz (.int (i + j))) → addD (.int i) (.int j) R := fun _ h => h
theorem k_sub : ∀ R : T → Prop, R (.fz (.int (i - j))) → subD (.int i) (.int j) R := fun _ h => h
theorem k_mul (c : mulOk i j) : ∀ R : T → Prop, R (.fz (.int (i * j))) → mulD (.int i) (.int j) R := fun _ h => ⟨c, h⟩
theorem k_div (c : 0 < j ∧ j < 2 ^ 5000) : ∀ R : T → Prop, R (.fz (.int (i / j))) → divD (.int i) (.int j) R := fun _ h => ⟨c, h⟩
theorem k_mod (c : 0 < j) : ∀ R : T → Prop, R (.fz (.int (i % j))) → modD (.int i) (.int j) R := fun _ h => ⟨c, h⟩
theorem k_pow (c : CPow i j) : ∀ R : T → Prop, R (.fz (.int (i ^ j.toNat))) → powD (.int i) (.int j) R := fun _ h => ⟨c, h⟩
theorem k_neg : ∀ R : T → Prop, R (.fz (.int (-i))) → negD (.int i) R := fun _ h => h
theorem k_catL {a b : List α} (c : a.length + b.length ≤ 10000000) : ∀ R : T → Prop, R (.ls ((a ++ b).map e)) → addD (.lst (a.map e)) (.lst (b.map e)) R := fun R h => ⟨by simpa using c, by rw [List.map_append] at h; exact h⟩
theorem k_catU {a b : List α} (c : a.length + b.length ≤ 10000000) : ∀ R : T → Prop, R (.fz (.tup ((a ++ b).map e))) → addD (.tup (a.map e)) (.tup (b.map e)) R := fun R h => ⟨by simpa using c, by rw [List.map_append] at h; exact h⟩
theorem repl_one {γ : Type} (k : Nat) (x : γ) : repl k [x] = List.replicate k x := by
  unfold repl
  induction k with
  | zero => rfl
  | succ k ih => rw [List.replicate_succ, List.flatten_cons, ih]; rfl
theorem k_rep1 {x : α} {k : Int} (c : -(2 ^ 63) ≤ k ∧ k ≤ 10000000) : ∀ R : T → Prop, R (.ls ((List.replicate k.toNat x).map e)) → mulD (.lst [e x]) (.int k) R := fun R h => ⟨c.1, by omega, by simp; omega, by rw [repl_one]; simpa using h⟩
theorem k_lt : ∀ R : T → Prop, R (.fz (.bl (decide (i < j)))) → cmpI (fun i j => decide (i < j)) (.int i) (.int j) R := fun _ h => h
theorem k_le : ∀ R : T → Prop, R (.fz (.bl (decide (i ≤ j)))) → cmpI (fun i j => decide (i ≤ j)) (.int i) (.int j) R := fun _ h => h
theorem k_gt : ∀ R : T → Prop, R (.fz (.bl (decide (j < i)))) → cmpI (fun i j => decide (j < i)) (.int i) (.int j) R := fun _ h => h
theorem k_ge : ∀ R : T → Prop, R (.fz (.bl (decide (j ≤ i)))) → cmpI (fun i j => decide (j ≤ i)) (.int i) (.int j) R := fun _ h => h
theorem k_eq [DecidableEq α] {k : Nat} (ok : EncOk e k) (hk : k ≤ 64) {a b : α} : ∀ R : T → Prop, R (.fz (.bl (decide (a = b)))) → eqD (e a) (e b) R := fun R h => ⟨ok.shp hk a, ok.shp hk b, by rw [ok.eq]; exact h⟩
theorem k_ne [DecidableEq α] {k : Nat} (ok : EncOk e k) (hk : k ≤ 64) {a b : α} : ∀ R : T → Prop, R (.fz (.bl (!decide (a = b)))) → neD (e a) (e b) R := fun R h => ⟨ok.shp hk a, ok.shp hk b, by rw [ok.eq]; exact h⟩
theorem eqv_str' (a b : Str) : D.eqv (.str a) (.str b) = decide (a = b) := by
  show (a == b) = _
  by_cases h : a = b <;> simp [h]
theorem k_eqS {a b : Str} (ca : (D.str a).shp) (cb : (D.str b).shp) : ∀ R : T → Prop, R (.fz (.bl (decide (a = b)))) → eqD (.str a) (.str b) R := fun R h => ⟨ca, cb, by rw [eqv_str']; exact h⟩
theorem k_neS {a b : Str} (ca : (D.str a).shp) (cb : (D.str b).shp) : ∀ R : T → Prop, R (.fz (.bl (!decide (a = b)))) → neD (.str a) (.str b) R := fun R h => ⟨ca, cb, by rw [eqv_str']; exact h⟩
/-- anything -/
theorem k_eqD {a b : D} (ca : a.shp) (cb : b.shp) : ∀ R : T → Prop, R (.fz (.bl (D.eqv a b))) → eqD a b R := fun R h => ⟨ca, cb, h⟩
theorem k_neD {a b : D} (ca : a.shp) (cb : b.shp) : ∀ R : T → Prop, R (.fz (.bl (!D.eqv a b))) → neD a b R := fun R h => ⟨ca, cb, h⟩
theorem k_inL [DecidableEq α] {k : Nat} (ok : EncOk e k) (hk : k ≤ 60) {a : α} {l : List α} : ∀ R : T → Prop, R (.fz (.bl (inl a l))) → inD false (e a) (.lst (l.map e)) R := fun R h => ⟨ok.shp (by omega) a, (ok_L ok).shp (by omega) l, by rw [any_enc ok]; simpa [inl] using h⟩
theorem k_inU [DecidableEq α] {k : Nat} (ok : EncOk e k) (hk : k ≤ 60) {a : α} {l : List α} : ∀ R : T → Prop, R (.fz (.bl (inl a l))) → inD false (e a) (.tup (l.map e)) R := fun R h => ⟨ok.shp (by omega) a, (ok_U ok).shp (by omega) l, by rw [any_enc ok]; simpa [inl] using h⟩
theorem k_ninL [DecidableEq α] {k : Nat} (ok : EncOk e k) (hk : k ≤ 60) {a : α} {l : List α} : ∀ R : T → Prop, R (.fz (.bl (!inl a l))) → inD true (e a) (.lst (l.map e)) R := fun R h => ⟨ok.shp (by omega) a, (ok_L ok).shp (by omega) l, by rw [any_enc ok]; simpa [inl] using h⟩
theorem k_ninU [DecidableEq α] {k : Nat} (ok : EncOk e k) (hk : k ≤ 60) {a : α} {l : List α} : ∀ R : T → Prop, R (.fz (.bl (!inl a l))) → inD true (e a) (.tup (l.map e)) R := fun R h => ⟨ok.shp (by omega) a, (ok_U ok).shp (by omega) l, by rw [any_enc ok]; simpa [inl] using h⟩
theorem look_map {κ κ' α β : Type} [DecidableEq κ] [DecidableEq κ'] (f : κ → κ') (g : α → β) (inj : ∀ a b, f a = f b → a = b) (k : κ) : ∀ m : List (κ × α), look (m.map fun p => (f p.1, g p.2)) (f k) = (look m k).map g
  | [] => rfl
  | (k', v) :: r => by
    by_cases h : k' = k
    · simp [look, h]
    · have h2 : ¬ f k' = f k := fun q => h (inj _ _ q)
      simp only [List.map_cons, look, if_neg h, if_neg h2]
      exact look_map f g inj k r
theorem inj_I : ∀ a b : Int, (Sum.inl a : Key) = Sum.inl b → a = b := fun _ _ h => Sum.inl.inj h
theorem inj_P : ∀ a b : Int × Int, kP a = kP b → a = b := fun a b h => by
  simp only [kP, List.cons.injEq, Sum.inl.injEq, and_true] at h
  exact Prod.ext h.1 h.2
theorem inj_U : ∀ a b : List Int, kU a = kU b → a = b := fun a b h => (List.map_inj_right (f := (Sum.inl : Int → Key)) (fun x y h => Sum.inl.inj h)).mp h
theorem k_inK {m : List (Int × β)} : ∀ R : T → Prop, R (.fz (.bl (hk m i))) → inD false (.int i) (eMI eb m) R := fun R h => by
  show R (.fz (.bl (false != (look (m.map fun p => ((Sum.inl p.1 : Key), eb p.2)) (Sum.inl i)).isSome)))
  rw [look_map (fun x : Int => (Sum.inl x : Key)) eb inj_I]; simpa [hk] using h
theorem k_ninK {m : List (Int × β)} : ∀ R : T → Prop, R (.fz (.bl (!hk m i))) → inD true (.int i) (eMI eb m) R := fun R h => by
  show R (.fz (.bl (true != (look (m.map fun p => ((Sum.inl p.1 : Key), eb p.2)) (Sum.inl i)).isSome)))
  rw [look_map (fun x : Int => (Sum.inl x : Key)) eb inj_I]; simpa [hk] using h
theorem keysOf_ints : ∀ l : List Int, keysOf (l.map D.int) = some (kU l)
  | [] => rfl
  | a :: r => by simp [keysOf, keyOf, keysOf_ints r]
theorem k_inTP {m : List ((Int × Int) × β)} {p : Int × Int} : ∀ R : T → Prop, R (.fz (.bl (hk m p))) → inD false (eP D.int D.int p) (eMT kP eb m) R := fun R h => by
  show R (.fz (.bl (false != (look (m.map fun q => (kP q.1, eb q.2)) (kP p)).isSome)))
  rw [look_map kP eb inj_P]; simpa [hk] using h
theorem k_ninTP {m : List ((Int × Int) × β)} {p : Int × Int} : ∀ R : T → Prop, R (.fz (.bl (!hk m p))) → inD true (eP D.int D.int p) (eMT kP eb m) R := fun R h => by
  show R (.fz (.bl (true != (look (m.map fun q => (kP q.1, eb q.2)) (kP p)).isSome)))
  rw [look_map kP eb inj_P]; simpa [hk] using h
theorem k_inTU {m : List (List Int × β)} {p : List Int} : ∀ R : T → Prop, R (.fz (.bl (hk m p))) → inD false (eU D.int p) (eMT kU eb m) R := fun R h => by
  unfold inD
  simp only [keysOf_ints]
  rw [look_map kU eb inj_U]; simpa [hk] using h
theorem k_ninTU {m : List (List Int × β)} {p : List Int} : ∀ R : T → Prop, R (.fz (.bl (!hk m p))) → inD true (eU D.int p) (eMT kU eb m) R := fun R h => by
  unfold inD
  simp only [keysOf_ints]
  rw [look_map kU eb inj_U]; simpa [hk] using h
theorem atI_map' {γ δ : Type} (f : γ → δ) (l : List γ) (i : Int) : atI (l.map f) i = (atI l i).map f := by
  unfold atI
  rw [List.length_map]
  cases ixN l.length i with
  | none => rfl
  | some k => show (l.map f)[k]? = _; rw [List.getElem?_map]; rfl
theorem atI_some {γ : Type} {l : List γ} {i : Int} (h : InR l i) : ∃ x, atI l i = some x := by
  unfold atI ixN
  by_cases h0 : 0 ≤ i
  · rw [if_pos h0, if_pos (by have := h.2; omega)]
    exact ⟨_, List.getElem?_eq_getElem (by have := h.2; omega)⟩
  · rw [if_neg h0, if_pos (by have := h.1; omega)]
    exact ⟨_, List.getElem?_eq_getElem (by have := h.1; omega)⟩
theorem k_ixL [Inhabited α] {l : List α} (c : InR l i) : ∀ R : T → Prop, R (.fz (e (gi l i))) → ixD (.lst (l.map e)) (.int i) R := fun R h => by
  obtain ⟨x, hx⟩ := atI_some c
  unfold ixD
  simp only [atI_map', hx, Option.map_some]
  simpa [gi, hx] using h
theorem k_ixU [Inhabited α] {l : List α} (c : InR l i) : ∀ R : T → Prop, R (.fz (e (gi l i))) → ixD (.tup (l.map e)) (.int i) R := fun R h => by
  obtain ⟨x, hx⟩ := atI_some c
  unfold ixD
  simp only [atI_map', hx, Option.map_some]
  simpa [gi, hx] using h
theorem k_ixS {l : List Int} (c : InR l i) : ∀ R : T → Prop, R (.fz (.int (gi l i))) → ixD (.scr l) (.int i) R := fun R h => by
  obtain ⟨x, hx⟩ := atI_some c
  unfold ixD
  simp only [hx]
  simpa [gi, hx] using h
theorem k_ix0 {a : D} {l : List D} : ∀ R : T → Prop, R (.fz a) → ixD (.tup (a :: l)) (.int 0) R := fun R h => by
  show (match atI (a :: l) 0 with | some d => R (.fz d) | none => False)
  have : atI (a :: l) 0 = some a := by unfold atI ixN; rw [if_pos (by decide), if_pos (by simp)]; rfl
  rw [this]; exact h
theorem k_ix1 {a b : D} {l : List D} : ∀ R : T → Prop, R (.fz b) → ixD (.tup (a :: b :: l)) (.int 1) R := fun R h => by
  show (match atI (a :: b :: l) 1 with | some d => R (.fz d) | none => False)
  have : atI (a :: b :: l) 1 = some b := by unfold atI ixN; rw [if_pos (by decide), if_pos (by simp; omega)]; rfl
  rw [this]; exact h
theorem k_ix2 {a b c : D} {l : List D} : ∀ R : T → Prop, R (.fz c) → ixD (.tup (a :: b :: c :: l)) (.int 2) R := fun R h => by
  show (match atI (a :: b :: c :: l) 2 with | some d => R (.fz d) | none => False)
  have : atI (a :: b :: c :: l) 2 = some c := by unfold atI ixN; rw [if_pos (by decide), if_pos (by simp; omega)]; rfl
  rw [this]; exact h
theorem k_ix3 {a b c d : D} {l : List D} : ∀ R : T → Prop, R (.fz d) → ixD (.tup (a :: b :: c :: d :: l)) (.int 3) R := fun R h => by
  show (match atI (a :: b :: c :: d :: l) 3 with | some d => R (.fz d) | none => False)
  have : atI (a :: b :: c :: d :: l) 3 = some d := by unfold atI ixN; rw [if_pos (by decide), if_pos (by simp; omega)]; rfl
  rw [this]; exact h
theorem look_some {κ α : Type} [DecidableEq κ] [Inhabited α] {m : List (κ × α)} {k : κ} (c : hk m k = true) : look m k = some (gk m k) := by
  unfold hk at c; unfold gk
  cases h : look m k with
  | none => rw [h] at c; cases c
  | some a => rfl
theorem k_ixK [Inhabited β] {m : List (Int × β)} (c : hk m i = true) : ∀ R : T → Prop, R (.fz (eb (gk m i))) → ixD (eMI eb m) (.int i) R := fun R h => by
  show (match keyOf (.int i) with | some k => (match look (m.map fun p => ((Sum.inl p.1 : Key), eb p.2)) k with | some d => R (.fz d) | none => False) | none => False)
  simp only [keyOf]
  rw [look_map (fun x : Int => (Sum.inl x : Key)) eb inj_I, look_some c]; exact h
theorem k_ixTP [Inhabited β] {m : List ((Int × Int) × β)} {p : Int × Int} (c : hk m p = true) : ∀ R : T → Prop, R (.fz (eb (gk m p))) → ixD (eMT kP eb m) (eP D.int D.int p) R := fun R h => by
  show (match look (m.map fun q => (kP q.1, eb q.2)) (kP p) with | some d => R (.fz d) | none => False)
  rw [look_map kP eb inj_P, look_some c]; exact h
/-! built-ins -/
theorem k_lenL {l : List α} : ∀ R : T → Prop, R (.fz (.int l.length)) → lenD [.lst (l.map e)] R := fun R h => by show R (.fz (.int (l.map e).length)); rw [List.length_map]; exact h
theorem k_lenU {l : List α} : ∀ R : T → Prop, R (.fz (.int l.length)) → lenD [.tup (l.map e)] R := fun R h => by show R (.fz (.int (l.map e).length)); rw [List.length_map]; exact h
theorem k_lenS {l : List Int} : ∀ R : T → Prop, R (.fz (.int l.length)) → lenD [.scr l] R := fun R h => h
theorem k_min2 : ∀ R : T → Prop, R (.fz (.int (min i j))) → min2D [.int i, .int j] R := fun R h => by
  show R (.fz (.int (if j < i then j else i)))
  have : (if j < i then j else i) = min i j := by split <;> omega
  rw [this]; exact h
theorem k_max2 : ∀ R : T → Prop, R (.fz (.int (max i j))) → max2D [.int i, .int j] R := fun R h => by
  show R (.fz (.int (if j > i then j else i)))
  have : (if j > i then j else i) = max i j := by split <;> omega
  rw [this]; exact h
theorem k_abs : ∀ R : T → Prop, R (.fz (.int (if i < 0 then -i else i))) → absD [.int i] R := fun _ h => h
theorem k_intI : ∀ R : T → Prop, R (.fz (.int i)) → intD [.int i] R := fun _ h => h
theorem k_intB {b : Bool} : ∀ R : T → Prop, R (.fz (.int (if b = true then 1 else 0))) → intD [.bl b] R := fun _ h => h
theorem k_listL {l : List D} : ∀ R : T → Prop, R (.ls l) → listD [.lst l] R := fun _ h => h
theorem k_listU {l : List D} : ∀ R : T → Prop, R (.ls l) → listD [.tup l] R := fun _ h => h
theorem k_tupL {l : List D} : ∀ R : T → Prop, R (.fz (.tup l)) → tupleD [.lst l] R := fun _ h => h
theorem k_tupU {l : List D} : ∀ R : T → Prop, R (.fz (.tup l)) → tupleD [.tup l] R := fun _ h => h
theorem k_all {l : List Bool} : ∀ R : T → Prop, R (.fz (.bl (l.all id))) → allD [.lst (l.map D.bl)] R := fun _ h => ⟨l, rfl, h⟩
theorem k_any {l : List Bool} : ∀ R : T → Prop, R (.fz (.bl (l.any id))) → anyD [.lst (l.map D.bl)] R := fun _ h => ⟨l, rfl, h⟩
theorem k_sum {l : List Int} : ∀ R : T → Prop, R (.fz (.int l.sum)) → sumD [.lst (l.map D.int)] R := fun _ h => ⟨l, rfl, h⟩
theorem k_max {l : List Int} (c : l ≠ []) : ∀ R : T → Prop, R (.fz (.int (maxL l))) → maxD [.lst (l.map D.int)] R := fun R h => ⟨l, rfl, List.length_pos_iff.mpr c, fun m hm hy => by
  have h2 := maxL_spec c
  have : m = maxL l := by have := hy _ h2.1; have := h2.2 m hm; omega
  rw [this]; exact h⟩
theorem k_min {l : List Int} (c : l ≠ []) : ∀ R : T → Prop, R (.fz (.int (minL l))) → minD [.lst (l.map D.int)] R := fun R h => ⟨l, rfl, List.length_pos_iff.mpr c, fun m hm hy => by
  have h2 := minL_spec c
  have : m = minL l := by have := hy _ h2.1; have := h2.2 m hm; omega
  rw [this]; exact h⟩
theorem k_sortI {l : List Int} : ∀ R : T → Prop, R (.ls ((sortI l).map D.int)) → sortedD [.lst (l.map D.int)] R := fun R h => .inl ⟨l, rfl, fun m hm hs => by rw [sortI_of hm hs]; exact h⟩
theorem k_sortP {l : List (Int × Int)} : ∀ R : T → Prop, R (.ls ((sortP l).map (eP D.int D.int))) → sortedD [.lst (l.map (eP D.int D.int))] R := fun R h => .inr ⟨l, rfl, fun m hm hs => by rw [sortP_of hm hs]; exact h⟩
theorem k_sortTI {l : List Int} : ∀ R : T → Prop, R (.ls ((sortI l).map D.int)) → sortedTD [.tup (l.map D.int)] R := fun R h => .inl ⟨l, rfl, fun m hm hs => by rw [sortI_of hm hs]; exact h⟩
theorem k_sortTP {l : List (Int × Int)} : ∀ R : T → Prop, R (.ls ((sortP l).map (eP D.int D.int))) → sortedTD [.tup (l.map (eP D.int D.int))] R := fun R h => .inr ⟨l, rfl, fun m hm hs => by rw [sortP_of hm hs]; exact h⟩
theorem k_lenK {m : List (Int × β)} : ∀ R : T → Prop, R (.fz (.int m.length)) → lenKD [eMI eb m] R := fun R h => by show R (.fz (.int (m.map _).length)); rw [List.length_map]; exact h
theorem k_sortK {m : List (Int × β)} (c : m.length < 64) : ∀ R : T → Prop, R (.ls ((sortI (m.map (·.1))).map D.int)) → sortedD [eMI eb m] R := fun R h => ⟨m.map (·.1), by simp [List.map_map], by simpa using c, fun n hn hs => by rw [sortI_of hn hs]; exact h⟩
theorem pairsT_map {κ : Type} {ek : κ → D} {kk : κ → List Key} (hk : ∀ k, ∃ ds, ek k = .tup ds ∧ keysOf ds = some (kk k)) : ∀ l : List (κ × β), pairsT (l.map (eP ek eb)) = some (l.map fun p => (kk p.1, eb p.2))
  | [] => rfl
  | p :: r => by
    obtain ⟨ds, e1, e2⟩ := hk p.1
    simp only [List.map_cons, eP, e1, pairsT, e2, pairsT_map hk r]
theorem k_dictTP {l : List ((Int × Int) × β)} (c : (l.map (·.1)).Nodup) : ∀ R : T → Prop, R (.dt (l.map fun p => (kP p.1, eb p.2))) → dictTD [.lst (l.map (eP (eP D.int D.int) eb))] R := fun R h => by
  show (match pairsT (l.map (eP (eP D.int D.int) eb)) with | some m => (m.map (·.1)).Nodup ∧ R (.dt m) | none => False)
  rw [pairsT_map (kk := kP) fun k => ⟨_, rfl, rfl⟩]
  refine ⟨?_, h⟩
  rw [List.map_map]
  have : ((fun x : List Key × D => x.1) ∘ fun p : (Int × Int) × β => (kP p.1, eb p.2)) = kP ∘ (·.1) := rfl
  rw [this, ← List.map_map]
  exact List.Pairwise.map kP (fun a b n e => n (inj_P a b e)) c
theorem k_dictTU {l : List (List Int × β)} (c : (l.map (·.1)).Nodup) : ∀ R : T → Prop, R (.dt (l.map fun p => (kU p.1, eb p.2))) → dictTD [.lst (l.map (eP (eU D.int) eb))] R := fun R h => by
  show (match pairsT (l.map (eP (eU D.int) eb)) with | some m => (m.map (·.1)).Nodup ∧ R (.dt m) | none => False)
  rw [pairsT_map (kk := kU) fun k => ⟨_, rfl, keysOf_ints k⟩]
  refine ⟨?_, h⟩
  rw [List.map_map]
  have : ((fun x : List Key × D => x.1) ∘ fun p : List Int × β => (kU p.1, eb p.2)) = kU ∘ (·.1) := rfl
  rw [this, ← List.map_map]
  exact List.Pairwise.map kU (fun a b n e => n (inj_U a b e)) c
theorem k_repr {d : D} (c : d.shw) : ∀ R : T → Prop, R (.fz (.str d.py.shown)) → reprN [d] R := fun _ h => ⟨c, h⟩
theorem k_isn {d : D} {n : String} {b : Bool} (c : isiB d.tyn n = some b) : ∀ R : T → Prop, R (.fz (.bl b)) → isinstD [d, .opq (.ty n)] R := fun R h => by
  show (match isiB d.tyn n with | some b => R (.fz (.bl b)) | none => False)
  rw [c]; exact h
def tyB (d : D) (n : String) : Bool := (isiB d.tyn n).getD false
def tyOk (d : D) (n : String) : Prop := (isiB d.tyn n).isSome = true
theorem k_isD {d : D} {n : String} (c : tyOk d n) : ∀ R : T → Prop, R (.fz (.bl (tyB d n))) → isinstD [d, .opq (.ty n)] R := fun R h => by
  unfold tyB at h; unfold tyOk at c
  show (match isiB d.tyn n with | some b => R (.fz (.bl b)) | none => False)
  split
  · rename_i b eb; rw [eb] at h; exact h
  · rename_i eb; rw [eb] at c; cases c
end
end DL

/-! Judgements: what an expression yields where the environment is known. -/
namespace DL
open PySem PySem.Spec L2
/-! ### steps that Python doesn't make -/
section
variable {K : PySem.W.Frag} {h H : Hp}
theorem OwnE.forget {G : En} {σ : L2.St} {fp : List Addr} (i : Nat) (o : OwnE K h H G σ fp) : ∃ fp', OwnE K h H (G.set i none) σ fp' ∧ fp'.Sublist fp := by
  by_cases hi : i < σ.length
  · obtain ⟨f, q, s⟩ := OwnE.cut i σ[i] o
    rw [set_same (List.getElem?_eq_getElem hi)] at q
    exact ⟨f, q, s⟩
  · rw [List.set_eq_of_length_le (by rw [o.length]; omega)]
    exact ⟨fp, o, .refl _⟩
theorem OwnE.forgets {G : En} {σ : L2.St} {fp : List Addr} (o : OwnE K h H G σ fp) : ∀ is : List Nat, ∃ fp', OwnE K h H (wipeE G is) σ fp' ∧ fp'.Sublist fp
  | [] => ⟨fp, o, .refl _⟩
  | i :: is => by
    obtain ⟨f, q, s⟩ := o.forgets is
    obtain ⟨f', q', s'⟩ := q.forget i
    exact ⟨f', q', s'.trans s⟩
end
/-- what is known of some names is forgotten -/
def dKill (is : List Nat) : DTS := fun Ds G => Ds.nx (wipeE G is)
/-- a name's thing is frozen -/
def dFrz (i : Nat) : DTS := fun Ds G => fzW G (.pk i none) fun G' _ => Ds.nx G'
section
variable {X : Cx} {m : Nat} {rest : List Stmt} {t : DTS}
theorem Ext.less {h H h' H' : Hp} {f fp fp' : List Addr} (s : ∀ a ∈ f, a ∈ fp) (e : Ext h H f h' H' fp') : Ext h H fp h' H' fp' :=
  ⟨e.gh, fun a o n => e.fr a o fun q => n (s a q), fun a q => (e.nw a q).imp (s a) id, fun a o q => by
    rcases e.hn a o q with r | r | r
    · exact .inl r
    · exact .inr (.inl (s a r))
    · exact .inr (.inr r)⟩
theorem dss_kill (is : List Nat) (d : DSs X m rest t) : DSs X m rest (dSeq (dKill is) t) := pss_imp d fun D σ H ⟨h, G, fp, Ds, S, w, kn, kr⟩ => by
  obtain ⟨f, o, s⟩ := S.env.forgets is
  refine ⟨h, wipeE G is, f, Ds, ⟨S.sub, o, s.nodup S.nd⟩, w, fun σ' H' n => kn σ' H' ?_, fun v H' n => kr v H' ?_⟩
  · obtain ⟨h', G', fp', S', e, q⟩ := n
    exact ⟨h', G', fp', S', e.less fun a m => s.subset m, q⟩
  · obtain ⟨h', G', fp', σ', vl, fv, S', ov, nd, e, q⟩ := n
    exact ⟨h', G', fp', σ', vl, fv, S', ov, nd, e.less fun a m => s.subset m, q⟩
theorem dss_frz (i : Nat) (d : DSs X m rest t) : DSs X m rest (dSeq (dFrz i) t) := pss_imp d fun D σ H ⟨h, G, fp, Ds, S, w, kn, kr⟩ => by
  have w : fzW G (.pk i none) (fun G' _ => t Ds G') := w
  have ex : ∃ t0, atE G i none = some t0 := by
    unfold fzW at w
    dsimp only at w
    split at w
    · exact ⟨_, by assumption⟩
    · exact w.elim
  obtain ⟨t0, e0⟩ := ex
  have e1 : G[i]? = some (some t0) := by
    unfold atE at e0
    split at e0
    · rename_i t1 q; cases e0; exact q
    · cases e0
  obtain ⟨v, ev⟩ := S.env.has e1
  have r : Res X.K true σ h H G fp h H G fp (.pk i none) v [] := ⟨S, .pk ⟨v, ev, rfl⟩ e0, by simpa using S.nd, by simpa using Ext.refl h H fp, fun _ => ⟨rfl, rfl, fun _ _ => rfl⟩⟩
  obtain ⟨h2, G2, f2, d2, S2, a2, x2, w2⟩ := r.fz w
  refine ⟨h2, G2, f2, Ds, S2, w2, fun σ' H' n => kn σ' H' ?_, fun v H' n => kr v H' ?_⟩
  · exact n.chain x2 rfl
  · exact n.chain x2 rfl
end
/-! ### judgements -/
def SP (te : DTE) (G : En) (v : Vl) : Prop := ∀ Q : En → Vl → Prop, Q G v → te G Q
def ST (tt : DTT) (G : En) (b : Bool) : Prop := ∀ Q : En → Bool → Prop, Q G b → tt G Q
def SA (ta : DTA) (G : En) (as : List AV) : Prop := ∀ Q : En → List AV → Prop, Q G as → ta G Q
def SI (ti : DTI) (G : En) (xs : List D) : Prop := ∀ Q : En → List D → Prop, Q G xs → ti G Q
def SO (to : DTO) (G : En) (o : Option Int) : Prop := ∀ Q : En → Option Int → Prop, Q G o → to G Q
def SG (g : DTG) (d : D) (G G' : En) : Prop := ∀ Q : En → Prop, Q G' → g d G Q
structure RD (G : En) (v : Vl) (d : D) : Prop where
  rd : ∀ k : D → Prop, k d → rdW G v k
  tm : ∀ t, v = .t t → t.calm = true ∧ t.toD = d
/-- a value that may be frozen, the environment stays -/
def FZ (G : En) (v : Vl) (d : D) : Prop := ∃ t : T, v = .t t ∧ t.calm = true ∧ t.toD = d
section
variable {G G' : En} {te ta tb tc : DTE} {tt tu : DTT} {tas : DTA} {v va vb : Vl} {d x y : D} {t : T} {a b c : Bool} {i n : Nat} {as : List AV} {ds : List D} {Ds : DEnds}
theorem rd_fz : RD G (.t (.fz d)) d := ⟨fun _ h => h, fun _ e => by cases e; exact ⟨by simp [T.calm], by simp [T.toD]⟩⟩
theorem rd_ls {l : List D} : RD G (.t (.ls l)) (.lst l) := ⟨fun _ h => h, fun _ e => by cases e; exact ⟨by simp [T.calm], by simp [T.toD]⟩⟩
theorem rd_dk {l : List (Key × D)} : RD G (.t (.dk l)) (.dK l) := ⟨fun _ h => h, fun _ e => by cases e; exact ⟨by simp [T.calm], by simp [T.toD]⟩⟩
theorem rd_dt {l : List (List Key × D)} : RD G (.t (.dt l)) (.dT l) := ⟨fun _ h => h, fun _ e => by cases e; exact ⟨by simp [T.calm], by simp [T.toD]⟩⟩
theorem rd_pk (h : G[i]? = some (some t)) (e : t.flat = some d) : RD G (.pk i none) d := ⟨fun k q => by
  have ea : atE G i none = some t := by unfold atE; rw [h]
  show (match atE G i none with | some t => rdT t k | none => False)
  rw [ea]; show rdT t k; unfold rdT; rw [e]; exact q, fun _ e => by cases e⟩
theorem rd_pkx {s : Stp} {t0 : T} (h : G[i]? = some (some t0)) (hk : t0.kid s = some t) (e : t.flat = some d) : RD G (.pk i (some s)) d := ⟨fun k q => by
  have ea : atE G i (some s) = some t := by unfold atE; rw [h]; exact hk
  show (match atE G i (some s) with | some t => rdT t k | none => False)
  rw [ea]; show rdT t k; unfold rdT; rw [e]; exact q, fun _ e => by cases e⟩
theorem fz_fz : FZ G (.t (.fz d)) d := ⟨_, rfl, by simp [T.calm], by simp [T.toD]⟩
theorem fz_ls {l : List D} : FZ G (.t (.ls l)) (.lst l) := ⟨_, rfl, by simp [T.calm], by simp [T.toD]⟩
theorem fz_dk {l : List (Key × D)} : FZ G (.t (.dk l)) (.dK l) := ⟨_, rfl, by simp [T.calm], by simp [T.toD]⟩
theorem fz_dt {l : List (List Key × D)} : FZ G (.t (.dt l)) (.dT l) := ⟨_, rfl, by simp [T.calm], by simp [T.toD]⟩
theorem FZ.w {k : En → D → Prop} (h : FZ G v d) (q : k G d) : fzW G v k := by
  obtain ⟨t, rfl, c, e⟩ := h
  subst e
  exact ⟨c, q⟩
theorem FZ.p {k : En → D → Prop} (h : FZ G v d) (q : k G d) : fzP G v k := by
  obtain ⟨t, rfl, c, e⟩ := h
  subst e
  exact ⟨c, q⟩
theorem sp_var_fz (h : G[i]? = some (some (.fz d))) : SP (dVar i) G (.t (.fz d)) := fun Q q => by unfold dVar; rw [h]; exact q
theorem sp_var (h : G[i]? = some (some t)) (hn : (match t with | .fz _ => False | _ => True)) : SP (dVar i) G (.pk i none) := fun Q q => by
  unfold dVar; rw [h]
  cases t with
  | fz d => exact hn.elim
  | _ => exact q
theorem sp_con : SP (dConst t) G (.t t) := fun Q q => q
theorem sp_bin {k : D2} (pa : SP ta G va) (ra : RD G va x) (pb : SP tb G vb) (rb : RD G vb y) (hk : ∀ R : T → Prop, R t → k x y R) : SP (dBin k true ta tb) G (.t t) := fun Q q => by
  refine pa _ ?_
  cases va with
  | t u =>
    obtain ⟨c, e⟩ := ra.tm u rfl
    subst e
    exact ⟨c, pb _ (rb.rd _ (hk _ q))⟩
  | pk i p => exact pb _ (ra.rd _ (rb.rd _ (hk _ q)))
theorem sp_binF {k : D2} {u : T} {pf : Bool} (pa : SP ta G (.t u)) (ra : FZ G (.t u) x) (pb : SP tb G vb) (rb : RD G vb y) (hk : ∀ R : T → Prop, R t → k x y R) : SP (dBin k pf ta tb) G (.t t) := fun Q q => by
  refine pa _ ?_
  obtain ⟨_, e0, c, e⟩ := ra
  cases e0
  subst e
  cases pf <;> exact ⟨c, pb _ (rb.rd _ (hk _ q))⟩
theorem sp_un {k : D1} (pa : SP ta G va) (ra : RD G va x) (hk : ∀ R : T → Prop, R t → k x R) : SP (dUn k ta) G (.t t) := fun Q q => pa _ (ra.rd _ (hk _ q))
theorem sp_cb1 {k : D1} (pa : SP ta G va) (ra : RD G va x) (hk : ∀ R : T → Prop, R t → k x R) : SP (dCB1 k ta) G (.t t) := sp_un pa ra hk
theorem st_val (p : SP te G v) (r : RD G v (.bl b)) : ST (dVal te) G b := fun Q q => p _ (r.rd _ q)
theorem st_and (pa : ST tt G a) (pb : a = true → ST tu G b) : ST (dAnd tt tu) G (a && b) := fun Q q => pa _ (by
  cases a with
  | true => exact pb rfl Q q
  | false => exact q)
theorem st_or (pa : ST tt G a) (pb : a = false → ST tu G b) : ST (dOr tt tu) G (a || b) := fun Q q => pa _ (by
  cases a with
  | true => exact q
  | false => exact pb rfl Q q)
theorem st_not (pa : ST tt G a) : ST (dNot tt) G (!a) := fun Q q => pa _ q
theorem sp_and (pa : SP ta G va) (ra : RD G va (.bl a)) (pb : a = true → SP tb G (.t (.fz (.bl b)))) : SP (dAndV ta tb) G (.t (.fz (.bl (a && b)))) := fun Q q => pa _ (ra.rd _ (by
  cases a with
  | true => exact pb rfl Q q
  | false => exact q))
theorem sp_or (pa : SP ta G va) (ra : RD G va (.bl a)) (pb : a = false → SP tb G (.t (.fz (.bl b)))) : SP (dOrV ta tb) G (.t (.fz (.bl (a || b)))) := fun Q q => pa _ (ra.rd _ (by
  cases a with
  | true => exact q
  | false => exact pb rfl Q q))
theorem sp_not (pa : SP ta G va) (ra : RD G va (.bl a)) : SP (dNotV ta) G (.t (.fz (.bl (!a)))) := fun Q q => pa _ (ra.rd _ q)
theorem sp_ifE {α : Type} (M : α → Vl) {x y : α} (pc : ST tt G c) (pa : c = true → SP ta G (M x)) (pb : c = false → SP tb G (M y)) : SP (dIfE tt ta tb) G (M (if c = true then x else y)) := fun Q q => pc _ (by
  cases c with
  | true => exact pa rfl Q q
  | false => exact pb rfl Q q)
theorem sp_chain {f g : Int → Int → Bool} {i j l : Int} {vc : Vl} (pa : SP ta G va) (ra : RD G va (.int i)) (pb : SP tb G vb) (rb : RD G vb (.int j)) (pc : f i j = true → SP tc G vc) (rc : f i j = true → RD G vc (.int l)) :
    SP (dChain f g ta tb tc) G (.t (.fz (.bl (f i j && g j l)))) := fun Q q => pa _ (ra.rd _ (pb _ (rb.rd _ (by
  show if f i j = true then _ else _
  cases h : f i j with
  | true => rw [if_pos rfl]; rw [h] at q; exact pc h _ ((rc h).rd _ q)
  | false => rw [if_neg Bool.false_ne_true]; rw [h] at q; exact q))))
theorem sa_nil : SA dNil G [] := fun Q q => q
theorem sa_cons (p : SP te G v) (f : FZ G v d) (r : SA tas G as) : SA (dACons te tas) G (.d d :: as) := fun Q q => p _ (f.w (r _ q))
theorem sa_consP (p : SP te G v) (f : FZ G v d) (r : SA tas G as) : SA (dAConsP te tas) G (.d d :: as) := fun Q q => p _ (f.p (r _ q))
theorem sa_lend (h : G[i]? = some (some t)) (r : SA tas G as) : SA (dALend i tas) G (.sl i :: as) := fun Q q => ⟨⟨t, h⟩, r _ q⟩
theorem withD_w {k : List D → Prop} (e : avD as = some ds) (q : k ds) : withD as k := by unfold withD; rw [e]; exact q
theorem sp_tup (r : SA tas G as) (e : avD as = some ds) (hl : ds.length ≤ 1000) : SP (dTup tas) G (.t (.fz (.tup ds))) := fun Q q => r _ (withD_w e ⟨hl, q⟩)
theorem sp_lst (r : SA tas G as) (e : avD as = some ds) (hl : ds.length ≤ 1000) : SP (dLst tas) G (.t (.ls ds)) := fun Q q => r _ (withD_w e ⟨hl, q⟩)
theorem sp_cb {k : DN} (r : SA tas G as) (e : avD as = some ds) (hk : ∀ R : T → Prop, R t → k ds R) : SP (dCB k tas) G (.t t) := fun Q q => r _ (withD_w e (hk _ q))
theorem sp_callP {F : FS} (r : SA tas G as) (e : avD as = some ds) (hl : ds.length = n) (hF : ∀ R : En → T → Prop, R [] t → F (ds.map .fz) R) : SP (dCallP n F tas) G (.t t) := fun Q q => r _ (withD_w e ⟨hl, hF (fun _ t => Q G (.t t)) q⟩)
theorem lend_ds : ∀ {as : List AV} {ds : List D}, avD as = some ds → lendE G as = some (ds.map .fz, G)
  | [], _, e => by cases e; rfl
  | .d x :: r, _, e => by
    simp only [avD, Option.map_eq_some_iff] at e
    obtain ⟨ds, e1, rfl⟩ := e
    simp [lendE, lend_ds e1]
  | .sl _ :: _, _, e => by cases e
theorem back_ds (G : En) : ∀ {as : List AV} {ds : List D}, avD as = some ds → backE G as [] = G
  | [], _, _ => rfl
  | .d x :: r, _, _ => rfl
  | .sl _ :: _, _, e => by cases e
theorem avD_len : ∀ {as : List AV} {ds : List D}, avD as = some ds → as.length = ds.length
  | [], _, e => by cases e; rfl
  | .d x :: r, _, e => by
    simp only [avD, Option.map_eq_some_iff] at e
    obtain ⟨ds, e1, rfl⟩ := e
    simp [avD_len e1]
  | .sl _ :: _, _, e => by cases e
theorem backs_ds (G : En) : ∀ {as : List AV} {ds : List D} (outs : En), avD as = some ds → backE G as outs = G
  | [], _, outs, _ => by cases outs <;> rfl
  | .d x :: r, _, [], _ => rfl
  | .d x :: r, _, o :: outs, e => by
    simp only [avD, Option.map_eq_some_iff] at e
    obtain ⟨ds, e1, rfl⟩ := e
    exact backs_ds G outs e1
  | .sl _ :: _, _, _, e => by cases e
theorem sp_call {F : FS} (r : SA tas G as) (e : avD as = some ds) (hl : ds.length = n) (hF : ∀ R : En → T → Prop, R [] t → F (ds.map .fz) R) : SP (dCall n F tas) G (.t t) := fun Q q => r _ ⟨by rw [avD_len e]; exact hl, by
  rw [lend_ds e]
  exact hF (fun outs t => Q (backE G as outs) (.t t)) (by show Q (backE G as []) _; rw [back_ds G e]; exact q)⟩
theorem so_none : SO oNone G none := fun Q q => q
theorem so_some {i : Int} (p : SP te G v) (r : RD G v (.int i)) : SO (oSome te) G (some i) := fun Q q => p _ (r.rd _ q)
theorem cutL_map {α β : Type} (f : α → β) (l : List α) (lo hi : Option Int) : cutL (l.map f) lo hi = (cutL l lo hi).map f := by
  unfold cutL
  rw [List.length_map, ← List.map_drop, ← List.map_take]
theorem sp_sliceL {α : Type} {e : α → D} {l : List α} {to th : DTO} {lo hi : Option Int} (p : SP te G v) (r : RD G v (.lst (l.map e))) (pl : SO to G lo) (ph : SO th G hi) : SP (dSlice te to th) G (.t (.ls ((cutL l lo hi).map e))) := fun Q q => by
  refine p _ ?_
  cases v with
  | pk i s => exact pl _ (ph _ (r.rd _ (by show Q G (.t (.ls (cutL (l.map e) lo hi))); rw [cutL_map]; exact q)))
  | t u => exact r.rd _ (pl _ (ph _ (by show Q G (.t (.ls (cutL (l.map e) lo hi))); rw [cutL_map]; exact q)))
theorem sp_sliceU {α : Type} {e : α → D} {l : List α} {to th : DTO} {lo hi : Option Int} (p : SP te G v) (r : RD G v (.tup (l.map e))) (pl : SO to G lo) (ph : SO th G hi) : SP (dSlice te to th) G (.t (.fz (.tup ((cutL l lo hi).map e)))) := fun Q q => by
  refine p _ ?_
  cases v with
  | pk i s => exact pl _ (ph _ (r.rd _ (by show Q G (.t (.fz (.tup (cutL (l.map e) lo hi)))); rw [cutL_map]; exact q)))
  | t u => exact r.rd _ (pl _ (ph _ (by show Q G (.t (.fz (.tup (cutL (l.map e) lo hi)))); rw [cutL_map]; exact q)))
theorem sp_newK : SP dNewK G (.t (.dk [])) := fun Q q => q
theorem sp_newT : SP dNewT G (.t (.dt [])) := fun Q q => q
theorem sp_listR1 {i : Int} (p : SP te G v) (r : RD G v (.int i)) (c : -(2 ^ 62) ≤ i ∧ i ≤ 1000) : SP (dListR1 te) G (.t (.ls ((irange 0 i).map D.int))) := fun Q q => p _ (r.rd _ (by
  refine ⟨?_, ?_⟩
  · unfold RgOk; omega
  · have : upto 0 i.toNat = (irange 0 i).map D.int := by unfold upto irange; rw [List.map_map, Int.sub_zero]; rfl
    rw [this]; exact q))
theorem sp_newsK {β : Type} (eb : β → D) {i : Int} (r : SA tas G [.d (.int i)]) (c : -(2 ^ 62) ≤ i ∧ i ≤ 1000) : SP (dNews (.dk []) tas) G (.t (.ll ((List.replicate i.toNat ([] : List (Int × β))).map (tK eb)))) := fun Q q => r _ ⟨c.1, c.2, by
  rw [List.map_replicate] at q; exact q⟩
theorem calmK {β : Type} (eb : β → D) : ∀ l : List (List (Int × β)), T.calms (l.map (tK eb)) = true
  | [] => by simp [T.calms]
  | x :: r => by simp only [List.map_cons, T.calms, T.calm, calmK eb r, Bool.and_self]
theorem toDsK {β : Type} (eb : β → D) : ∀ l : List (List (Int × β)), T.toDs (l.map (tK eb)) = l.map (eMI eb)
  | [] => by simp [T.toDs]
  | x :: r => by simp only [List.map_cons, T.toDs, T.toD, toDsK eb r]
theorem calmL {β : Type} (eb : β → D) : ∀ l : List (List β), T.calms (l.map (tLs eb)) = true
  | [] => by simp [T.calms]
  | x :: r => by simp only [List.map_cons, T.calms, T.calm, calmL eb r, Bool.and_self]
theorem toDsL {β : Type} (eb : β → D) : ∀ l : List (List β), T.toDs (l.map (tLs eb)) = l.map (eL eb)
  | [] => by simp [T.toDs]
  | x :: r => by simp only [List.map_cons, T.toDs, T.toD, toDsL eb r]
theorem fz_llK {β : Type} {eb : β → D} {l : List (List (Int × β))} : FZ G (.t (.ll (l.map (tK eb)))) (.lst (l.map (eMI eb))) := ⟨_, rfl, by simp only [T.calm, calmK], by simp only [T.toD, toDsK]⟩
theorem fz_llL {β : Type} {eb : β → D} {l : List (List β)} : FZ G (.t (.ll (l.map (tLs eb)))) (.lst (l.map (eL eb))) := ⟨_, rfl, by simp only [T.calm, calmL], by simp only [T.toD, toDsL]⟩
theorem sp_news {t0 : T} {i : Int} (r : SA tas G [.d (.int i)]) (c : -(2 ^ 62) ≤ i ∧ i ≤ 1000) : SP (dNews t0 tas) G (.t (.ll (List.replicate i.toNat t0))) := fun Q q => r _ ⟨c.1, c.2, q⟩
/-! iterators -/
theorem upto_irange0 (i : Int) : upto 0 i.toNat = (irange 0 i).map D.int := by unfold upto irange; rw [List.map_map, Int.sub_zero]; rfl
theorem upto_irange (lo hi : Int) : upto lo (hi - lo).toNat = (irange lo hi).map D.int := by unfold upto irange; rw [List.map_map]; rfl
theorem si_seqL {l : List D} (p : SP te G v) (f : FZ G v (.lst l)) : SI (iSeqD te) G l := fun Q q => p _ (f.w q)
theorem si_seqU {l : List D} (p : SP te G v) (f : FZ G v (.tup l)) : SI (iSeqD te) G l := fun Q q => p _ (f.w q)
theorem si_seqS {l : List Int} (p : SP te G v) (f : FZ G v (.scr l)) : SI (iSeqD te) G (l.map D.int) := fun Q q => p _ (f.w q)
theorem si_dictI {β : Type} {eb : β → D} {m : List (Int × β)} (p : SP te G v) (f : FZ G v (eMI eb m)) : SI (iDict te) G ((m.map (·.1)).map D.int) := fun Q q => p _ (f.w (by
  show Q G ((m.map fun p => ((Sum.inl p.1 : Key), eb p.2)).map fun p => keyD p.1)
  rw [List.map_map] at q ⊢; exact q))
theorem si_dictP {β : Type} {eb : β → D} {m : List ((Int × Int) × β)} (p : SP te G v) (f : FZ G v (eMT kP eb m)) : SI (iDict te) G ((m.map (·.1)).map (eP D.int D.int)) := fun Q q => p _ (f.w (by
  show Q G ((m.map fun p => (kP p.1, eb p.2)).map fun p => .tup (p.1.map keyD))
  rw [List.map_map] at q ⊢; exact q))
theorem si_dictU {β : Type} {eb : β → D} {m : List (List Int × β)} (p : SP te G v) (f : FZ G v (eMT kU eb m)) : SI (iDict te) G ((m.map (·.1)).map (eU D.int)) := fun Q q => p _ (f.w (by
  show Q G ((m.map fun p => (kU p.1, eb p.2)).map fun p => .tup (p.1.map keyD))
  rw [List.map_map] at q ⊢
  have : ((fun p : List Key × D => D.tup (p.1.map keyD)) ∘ fun p : List Int × β => (kU p.1, eb p.2)) = (eU D.int) ∘ (fun x : List Int × β => x.1) := by
    funext x
    show D.tup ((x.1.map Sum.inl).map keyD) = D.tup (x.1.map D.int)
    rw [List.map_map]; rfl
  rw [this]; exact q))
theorem si_range1 {i : Int} (r : SA tas G [.d (.int i)]) (c : -(2 ^ 62) ≤ i ∧ i < 2 ^ 62) : SI (iRange1 tas) G ((irange 0 i).map D.int) := fun Q q => r _ ⟨c.1, c.2, by rw [upto_irange0]; exact q⟩
theorem si_range2 {i j : Int} (r : SA tas G [.d (.int i), .d (.int j)]) (c : -(2 ^ 62) ≤ i ∧ i < 2 ^ 62 ∧ -(2 ^ 62) ≤ j ∧ j < 2 ^ 62) : SI (iRange2 tas) G ((irange i j).map D.int) := fun Q q => r _ ⟨c, by rw [upto_irange]; exact q⟩
theorem enumD_map {α : Type} (e : α → D) : ∀ (l : List α) (k : Nat), enumD k (l.map e) = (l.zipIdx k).map fun p => eP D.int e ((p.2 : Int), p.1)
  | [], _ => rfl
  | x :: r, k => by simp [enumD, enumD_map e r]
theorem si_enum {α : Type} {e : α → D} {l : List α} (r : SA tas G [.d (.lst (l.map e))]) : SI (iEnumD tas) G ((ienum l).map (eP D.int e)) := fun Q q => r _ (by
  show Q G (enumD 0 (l.map e))
  rw [enumD_map]; unfold ienum at q; rw [List.map_map] at q; exact q)
theorem zipD_map {α β : Type} (e : α → D) (f : β → D) : ∀ (l : List α) (m : List β), zipD (l.map e) (m.map f) = (l.zip m).map (eP e f)
  | [], _ => rfl
  | _ :: _, [] => rfl
  | x :: r, y :: s => by simp [zipD, zipD_map e f r s]
theorem si_zipL {α β : Type} {e : α → D} {f : β → D} {l : List α} {m : List β} (r : SA tas G [.d (.lst (l.map e)), .d (.lst (m.map f))]) : SI (iZipD tas) G ((l.zip m).map (eP e f)) := fun Q q => r _ (by
  show Q G (zipD (l.map e) (m.map f))
  rw [zipD_map]; exact q)
theorem si_zipU {α β : Type} {e : α → D} {f : β → D} {l : List α} {m : List β} (r : SA tas G [.d (.tup (l.map e)), .d (.tup (m.map f))]) : SI (iZipD tas) G ((l.zip m).map (eP e f)) := fun Q q => r _ (by
  show Q G (zipD (l.map e) (m.map f))
  rw [zipD_map]; exact q)
/-! targets -/
theorem sg_name (hi : i < G.length) (e : G.set i (some (.fz d)) = G') : SG (gN i) d G G' := fun Q q => ⟨hi, by rw [e]; exact q⟩
theorem sg_pair {i j : Nat} {d1 d2 : D} (hi : i < G.length) (hj : j < G.length) (e : (G.set i (some (.fz d1))).set j (some (.fz d2)) = G') : SG (gT 2 (gsCons (gN i) (gsCons (gN j) gsNil))) (.tup [d1, d2]) G G' := fun Q q =>
  ⟨rfl, hi, by simpa using hj, rfl, by rw [e]; exact q⟩
theorem sg_trip {i j k : Nat} {d1 d2 d3 : D} (hi : i < G.length) (hj : j < G.length) (hk : k < G.length) (e : ((G.set i (some (.fz d1))).set j (some (.fz d2))).set k (some (.fz d3)) = G') : SG (gT 3 (gsCons (gN i) (gsCons (gN j) (gsCons (gN k) gsNil)))) (.tup [d1, d2, d3]) G G' := fun Q q =>
  ⟨rfl, hi, by simpa using hj, by simpa using hk, rfl, by rw [e]; exact q⟩
theorem sg_quad {i j k l : Nat} {d1 d2 d3 d4 : D} (hi : i < G.length) (hj : j < G.length) (hk : k < G.length) (hl : l < G.length) (e : (((G.set i (some (.fz d1))).set j (some (.fz d2))).set k (some (.fz d3))).set l (some (.fz d4)) = G') : SG (gT 4 (gsCons (gN i) (gsCons (gN j) (gsCons (gN k) (gsCons (gN l) gsNil))))) (.tup [d1, d2, d3, d4]) G G' := fun Q q =>
  ⟨rfl, hi, by simpa using hj, by simpa using hk, by simpa using hl, rfl, by rw [e]; exact q⟩
/-- i, (j, k) -/
theorem sg_nest {i j k : Nat} {d1 d2 d3 : D} (hi : i < G.length) (hj : j < G.length) (hk : k < G.length) (e : ((G.set i (some (.fz d1))).set j (some (.fz d2))).set k (some (.fz d3)) = G') : SG (gT 2 (gsCons (gN i) (gsCons (gT 2 (gsCons (gN j) (gsCons (gN k) gsNil))) gsNil))) (.tup [d1, .tup [d2, d3]]) G G' := fun Q q =>
  ⟨rfl, hi, rfl, by simpa using hj, by simpa using hk, rfl, rfl, by rw [e]; exact q⟩
/-! comprehensions -/
theorem wipeE_idem (G : En) (vs : List Nat) : wipeE (wipeE G vs) vs = wipeE G vs := by
  apply List.ext_getElem?
  intro j
  have len : ∀ (G : En) (us : List Nat), (wipeE G us).length = G.length := fun G us => by
    induction us with
    | nil => rfl
    | cons u us ih => simp only [wipeE, List.length_set, ih]
  have get : ∀ (G : En) (us : List Nat) (j : Nat), (wipeE G us)[j]? = if j ∈ us then (G[j]?.map fun _ => none) else G[j]? := fun G us j => by
    induction us with
    | nil => simp [wipeE]
    | cons u us ih =>
      simp only [wipeE]
      by_cases e : u = j
      · subst e
        rw [if_pos (by simp)]
        by_cases hl : u < G.length
        · rw [List.getElem?_set_self (by rw [len]; exact hl), List.getElem?_eq_getElem hl]; rfl
        · rw [List.getElem?_eq_none (by simp [len]; omega), List.getElem?_eq_none (by omega)]; rfl
      · rw [List.getElem?_set_ne e, ih]; simp [Ne.symm e]
  rw [get, get]
  by_cases hj : j ∈ vs
  · rw [if_pos hj, if_pos hj, Option.map_map]; rfl
  · rw [if_neg hj]
theorem comp_pure {α : Type} {g : DTG} {tt : DTT} {te : DTE} {vs : List Nat} {Q : En → List D → Prop} (e : α → D) (p : α → Bool) (f : α → D) (Gx : α → En) (xs : List α)
    (hg : ∀ x ∈ xs, SG g (e x) (wipeE G vs) (Gx x)) (ht : ∀ x ∈ xs, ST tt (Gx x) (p x)) (he : ∀ x ∈ xs, p x = true → ∃ v, SP te (Gx x) v ∧ FZ (Gx x) v (f x)) (hw : ∀ x, wipeE (Gx x) vs = wipeE G vs)
    (hQ : ∀ G', wipeE G' vs = wipeE G vs → Q G' ((xs.filter p).map f)) : ∀ (r pre : List α) (acc : List D) (G' : En), xs = pre ++ r → xs.length ≤ 10000000 → acc = ((pre.filter p).map f) → wipeE G' vs = wipeE G vs → compW g tt te vs Q (r.map e) acc G'
  | [], pre, acc, G', e1, hl, ea, ew => by
    rw [List.append_nil] at e1
    subst e1 ea
    exact hQ G' ew
  | x :: r, pre, acc, G', e1, hl, ea, ew => by
    have hx : x ∈ xs := by rw [e1]; simp
    subst ea
    refine ⟨?_, ?_⟩
    · have h1 := List.length_filter_le p pre
      have h2 : pre.length < xs.length := by rw [e1]; simp
      rw [List.length_map]; omega
    rw [ew]
    refine hg x hx _ (ht x hx _ ?_)
    cases hp : p x with
    | true =>
      rw [if_pos rfl]
      obtain ⟨v, sv, fv⟩ := he x hx hp
      refine sv _ (fv.w ?_)
      exact comp_pure e p f Gx xs hg ht he hw hQ r (pre ++ [x]) _ _ (by rw [e1]; simp) hl (by rw [List.filter_append]; simp [hp]) (hw x)
    | false =>
      rw [if_neg Bool.false_ne_true]
      exact comp_pure e p f Gx xs hg ht he hw hQ r (pre ++ [x]) _ _ (by rw [e1]; simp) hl (by rw [List.filter_append]; simp [hp]) (hw x)
theorem unwipe_wiped (G0 : En) {A B : En} : ∀ vs : List Nat, A = B → unwipe G0 A vs = unwipe G0 B vs := fun vs h => by rw [h]
theorem sp_lc {α β : Type} {ti : DTI} {g : DTG} {tt : DTT} {te : DTE} {vs : List Nat} {xs : List α} (e : α → D) (p : α → Bool) (f : α → β) (eb : β → D) (Gx : α → En) (hi : SI ti G (xs.map e)) (hl : xs.length ≤ 10000000)
    (hg : ∀ x ∈ xs, SG g (e x) (wipeE G vs) (Gx x)) (ht : ∀ x ∈ xs, ST tt (Gx x) (p x)) (he : ∀ x ∈ xs, p x = true → ∃ v, SP te (Gx x) v ∧ FZ (Gx x) v (eb (f x))) (hw : ∀ x, wipeE (Gx x) vs = wipeE G vs)
    (hu : unwipe G (wipeE G vs) vs = G) : SP (dLc ti g tt te vs) G (.t (.ls (((xs.filter p).map f).map eb))) := fun Q q => hi _ (by
  refine comp_pure e p (fun x => eb (f x)) Gx xs hg ht he hw (fun G' ew => ?_) xs [] [] G rfl hl rfl rfl
  rw [ew, hu]
  rw [List.map_map] at q
  exact q)
theorem sp_lc0 {α β : Type} {ti : DTI} {g : DTG} {te : DTE} {vs : List Nat} {xs : List α} (e : α → D) (f : α → β) (eb : β → D) (Gx : α → En) (hi : SI ti G (xs.map e)) (hl : xs.length ≤ 10000000)
    (hg : ∀ x ∈ xs, SG g (e x) (wipeE G vs) (Gx x)) (he : ∀ x ∈ xs, ∃ v, SP te (Gx x) v ∧ FZ (Gx x) v (eb (f x))) (hw : ∀ x, wipeE (Gx x) vs = wipeE G vs)
    (hu : unwipe G (wipeE G vs) vs = G) : SP (dLc ti g dYes te vs) G (.t (.ls ((xs.map f).map eb))) := by
  have h := sp_lc (tt := dYes) e (fun _ => true) f eb Gx hi hl hg (fun x _ Q q => q) (fun x hx _ => he x hx) hw hu
  rwa [List.filter_eq_self.mpr fun _ _ => rfl] at h
/-! ### steps of statements -/
theorem q_seq {t u : DTS} (h : t ⟨u Ds, Ds.rt⟩ G) : dSeq t u Ds G := h
theorem q_next (h : Ds.nx G) : dNext Ds G := h
theorem p_set {u : DTS} (p : SP te G (.t t)) (hi : i < G.length) (e : G.set i (some t) = G') (h : u Ds G') : dSeq (dSet i te) u Ds G := p _ ⟨hi, by rw [e]; exact h⟩
theorem p_kill {is : List Nat} {u : DTS} (e : wipeE G is = G') (h : u Ds G') : dSeq (dKill is) u Ds G := by
  show u Ds (wipeE G is); rw [e]; exact h
theorem p_frz {u : DTS} (h : G[i]? = some (some t)) (c : t.calm = true) (e : G.set i (some (.fz t.toD)) = G') (q : u Ds G') : dSeq (dFrz i) u Ds G := by
  have ea : atE G i none = some t := by unfold atE; rw [h]
  show (match atE G i none with | some t => fzT t fun d => u Ds (setE G i none (.fz d)) | none => False)
  rw [ea]
  exact ⟨c, by show u Ds (setE G i none (.fz t.toD)); rw [show setE G i none (.fz t.toD) = G.set i (some (.fz t.toD)) from rfl, e]; exact q⟩
theorem p_frzK {β : Type} {eb : β → D} {l : List (List (Int × β))} {u : DTS} (h : G[i]? = some (some (.ll (l.map (tK eb))))) (e : G.set i (some (.fz (.lst (l.map (eMI eb))))) = G') (q : u Ds G') : dSeq (dFrz i) u Ds G :=
  p_frz h (by simp only [T.calm, calmK]) (by simp only [T.toD, toDsK]; exact e) q
theorem p_frzL {β : Type} {eb : β → D} {l : List (List β)} {u : DTS} (h : G[i]? = some (some (.ll (l.map (tLs eb))))) (e : G.set i (some (.fz (.lst (l.map (eL eb))))) = G') (q : u Ds G') : dSeq (dFrz i) u Ds G :=
  p_frz h (by simp only [T.calm, calmL]) (by simp only [T.toD, toDsL]; exact e) q
theorem p_if {t u : DTS} (p : ST tt G b) (h1 : b = true → t Ds G) (h2 : b = false → u Ds G) : dIf tt t u Ds G := p _ (by
  cases b with
  | true => exact h1 rfl
  | false => exact h2 rfl)
theorem p_ret (p : SP te G v) (h : Ds.rt G v) : dRet te Ds G := p _ h
theorem p_expr {u : DTS} (p : SP te G v) (h : u Ds G) : dSeq (dExpr te) u Ds G := p _ h
theorem q_seqx {u : DTS} (h : te G fun G1 _ => u Ds G1) : dSeq (dExpr te) u Ds G := h
theorem p_app {α : Type} {e : α → D} {l : List α} {x : α} {pb : Bool} {u : DTS} (h : G[i]? = some (some (.ls (l.map e)))) (p : SA tas G [.d (e x)]) (c : l.length < 10000000) (eG : G.set i (some (.ls ((l ++ [x]).map e))) = G') (q : u Ds G') :
    dSeq (dExpr (dMeth "list" appendN pb (dVar i) tas)) u Ds G := by
  refine q_seqx ?_
  refine (sp_var h trivial) _ ?_
  have ea : atE G i none = some (.ls (l.map e)) := by unfold atE; rw [h]
  refine ⟨⟨_, ea, rfl⟩, p _ ⟨.inl rfl, ?_⟩⟩
  refine withD_w (ds := [e x]) rfl ?_
  rw [ea]
  refine ⟨by simpa using c, ?_⟩
  show u Ds (G.set i _)
  rw [List.map_append] at eG
  rw [show l.map e ++ [e x] = l.map e ++ [x].map e from rfl, eG]
  exact q
theorem p_ext {α : Type} {e : α → D} {l m : List α} {pb : Bool} {u : DTS} (h : G[i]? = some (some (.ls (l.map e)))) (p : SA tas G [.d (.lst (m.map e))]) (c : l.length + m.length ≤ 10000000) (eG : G.set i (some (.ls ((l ++ m).map e))) = G') (q : u Ds G') :
    dSeq (dExpr (dMeth "list" extendN pb (dVar i) tas)) u Ds G := by
  refine q_seqx ?_
  refine (sp_var h trivial) _ ?_
  have ea : atE G i none = some (.ls (l.map e)) := by unfold atE; rw [h]
  refine ⟨⟨_, ea, rfl⟩, p _ ⟨.inl rfl, ?_⟩⟩
  refine withD_w (ds := [.lst (m.map e)]) rfl ?_
  rw [ea]
  refine ⟨by simpa using c, ?_⟩
  show u Ds (G.set i _)
  rw [List.map_append] at eG
  rw [eG]
  exact q
/-- x = xs.pop() -/
theorem p_pop {α : Type} [Inhabited α] {e : α → D} {l : List α} (h : G[i]? = some (some (.ls (l.map e)))) (c : l ≠ []) (eG : G.set i (some (.ls (l.dropLast.map e))) = G') {Q : En → Vl → Prop} (q : Q G' (.t (.fz (e (l.getLastD default))))) :
    dMeth0 "list" popN (dVar i) G Q := by
  refine (sp_var h trivial) _ ?_
  have ea : atE G i none = some (.ls (l.map e)) := by unfold atE; rw [h]
  show (match atE G i none with | some t => _ | none => _)
  rw [ea]
  refine ⟨rfl, e (l.getLastD default), ?_, ?_⟩
  · rw [List.getLast?_map, List.getLastD_eq_getLast?]
    cases el : l.getLast? with
    | none => exact absurd (List.getLast?_eq_none_iff.mp el) c
    | some y => rfl
  · rw [← List.map_dropLast]
    show Q (G.set i _) _
    rw [eG]; exact q
theorem eraseIdx_map' {α β : Type} (f : α → β) : ∀ (l : List α) (n : Nat), (l.map f).eraseIdx n = (l.eraseIdx n).map f
  | [], _ => rfl
  | _ :: _, 0 => rfl
  | x :: r, n + 1 => by simp [eraseIdx_map' f r n]
/-- x = xs.pop(k) -/
theorem p_popAt {α : Type} [Inhabited α] {e : α → D} {l : List α} {k : Int} {pb : Bool} (h : G[i]? = some (some (.ls (l.map e)))) (p : SA tas G [.d (.int k)]) (c : 0 ≤ k ∧ k < l.length) (c2 : l.length ≤ 10000000) (eG : G.set i (some (.ls ((l.eraseIdx k.toNat).map e))) = G') {Q : En → Vl → Prop} (q : Q G' (.t (.fz (e (gi l k))))) :
    dMeth "list" popAtN pb (dVar i) tas G Q := by
  refine (sp_var h trivial) _ ?_
  have ea : atE G i none = some (.ls (l.map e)) := by unfold atE; rw [h]
  refine ⟨⟨_, ea, rfl⟩, p _ ⟨.inl rfl, ?_⟩⟩
  refine withD_w (ds := [.int k]) rfl ?_
  rw [ea]
  obtain ⟨n, rfl⟩ := Int.eq_ofNat_of_zero_le c.1
  have hn : n < l.length := by omega
  have eg : gi l (n : Int) = l[n] := by
    unfold gi atI ixN
    rw [if_pos (by omega), if_pos (by omega)]
    show (l[(n : Int).toNat]?).getD default = _
    rw [Int.toNat_natCast, List.getElem?_eq_getElem hn]; rfl
  rw [eg] at q
  refine ⟨n, e l[n], rfl, by rw [List.getElem?_map, List.getElem?_eq_getElem hn]; rfl, by omega, ?_⟩
  show Q (G.set i _) _
  rw [Int.toNat_natCast] at eG
  rw [eraseIdx_map', eG]
  exact q
theorem set_map {α β : Type} (f : α → β) (l : List α) (n : Nat) (x : α) : (l.map f).set n (f x) = (l.set n x).map f := List.map_set.symm
/-- xs[i] = x on a list -/
theorem p_stoL {α : Type} {e : α → D} {l : List α} {k : Int} {x : α} {pb : Bool} {ti : DTE} {vi : Vl} {u : DTS} (h : G[i]? = some (some (.ls (l.map e)))) (p : SP te G v) (f : FZ G v (e x)) (pi : SP ti G vi) (ri : RD G vi (.int k)) (c : 0 ≤ k ∧ k < l.length)
    (eG : G.set i (some (.ls ((l.set k.toNat x).map e))) = G') (q : u Ds G') : dSeq (dStore pb te (dVar i) ti) u Ds G := by
  show dStore pb te (dVar i) ti _ G
  refine p _ (f.w ((sp_var h trivial) _ (pi _ ⟨.inl rfl, ri.rd _ ?_⟩)))
  have ea : atE G i none = some (.ls (l.map e)) := by unfold atE; rw [h]
  rw [ea]
  show (match ixN (l.map e).length k with | some j => _ | none => False)
  have ek : ixN (l.map e).length k = some k.toNat := by unfold ixN; rw [if_pos c.1, if_pos (by rw [List.length_map]; omega)]
  rw [ek]
  show u Ds (G.set i _)
  rw [set_map, eG]; exact q
def putM {κ α : Type} [DecidableEq κ] (m : List (κ × α)) (k : κ) (x : α) : List (κ × α) := putL m k x
theorem putL_map {κ κ' α β : Type} [DecidableEq κ] [DecidableEq κ'] (f : κ → κ') (g : α → β) (inj : ∀ a b, f a = f b → a = b) (k : κ) (x : α) : ∀ m : List (κ × α), putL (m.map fun p => (f p.1, g p.2)) (f k) (g x) = (putL m k x).map fun p => (f p.1, g p.2)
  | [] => rfl
  | (k', v) :: r => by
    by_cases h : k' = k
    · simp [putL, h]
    · have h2 : ¬ f k' = f k := fun q => h (inj _ _ q)
      simp only [List.map_cons, putL, if_neg h, if_neg h2]
      rw [putL_map f g inj k x r]
theorem nodup_map_inj {κ κ' α β : Type} (f : κ → κ') (g : α → β) (inj : ∀ a b, f a = f b → a = b) {m : List (κ × α)} (h : (m.map (·.1)).Nodup) : ((m.map fun p => (f p.1, g p.2)).map (·.1)).Nodup := by
  rw [List.map_map]
  have : ((fun x : κ' × β => x.1) ∘ fun p : κ × α => (f p.1, g p.2)) = f ∘ (·.1) := rfl
  rw [this, ← List.map_map]
  exact List.Pairwise.map f (fun a b n e => n (inj a b e)) h
/-- d[k] = x, keys ints -/
theorem p_stoK {β : Type} {eb : β → D} {m : List (Int × β)} {k : Int} {x : β} {pb : Bool} {ti : DTE} {vi : Vl} {u : DTS} (h : G[i]? = some (some (tK eb m))) (p : SP te G v) (f : FZ G v (eb x)) (pi : SP ti G vi) (ri : RD G vi (.int k)) (c : (m.map (·.1)).Nodup ∧ m.length < 10000000)
    (eG : G.set i (some (tK eb (putM m k x))) = G') (q : u Ds G') : dSeq (dStore pb te (dVar i) ti) u Ds G := by
  show dStore pb te (dVar i) ti _ G
  refine p _ (f.w ((sp_var h trivial) _ (pi _ ⟨.inl rfl, ri.rd _ ?_⟩)))
  have ea : atE G i none = some (tK eb m) := by unfold atE; rw [h]
  rw [ea]
  refine ⟨nodup_map_inj (fun x : Int => (Sum.inl x : Key)) eb inj_I c.1, by rw [List.length_map]; exact c.2, ?_⟩
  show u Ds (G.set i _)
  rw [putL_map (fun x : Int => (Sum.inl x : Key)) eb inj_I]
  rw [show putL m k x = putM m k x from rfl, eG]; exact q
theorem p_stoTP {β : Type} {eb : β → D} {m : List ((Int × Int) × β)} {k : Int × Int} {x : β} {pb : Bool} {ti : DTE} {vi : Vl} {u : DTS} (h : G[i]? = some (some (.dt (m.map fun p => (kP p.1, eb p.2))))) (p : SP te G v) (f : FZ G v (eb x)) (pi : SP ti G vi) (ri : RD G vi (eP D.int D.int k)) (c : (m.map (·.1)).Nodup ∧ m.length < 10000000)
    (eG : G.set i (some (.dt ((putM m k x).map fun p => (kP p.1, eb p.2)))) = G') (q : u Ds G') : dSeq (dStore pb te (dVar i) ti) u Ds G := by
  show dStore pb te (dVar i) ti _ G
  refine p _ (f.w ((sp_var h trivial) _ (pi _ ⟨.inl rfl, ri.rd _ ?_⟩)))
  have ea : atE G i none = some (.dt (m.map fun p => (kP p.1, eb p.2))) := by unfold atE; rw [h]
  rw [ea]
  refine ⟨nodup_map_inj kP eb inj_P c.1, by rw [List.length_map]; exact c.2, ?_⟩
  show u Ds (G.set i _)
  rw [putL_map kP eb inj_P]
  rw [show putL m k x = putM m k x from rfl, eG]; exact q
theorem p_stoTU {β : Type} {eb : β → D} {m : List (List Int × β)} {k : List Int} {x : β} {pb : Bool} {ti : DTE} {vi : Vl} {u : DTS} (h : G[i]? = some (some (.dt (m.map fun p => (kU p.1, eb p.2))))) (p : SP te G v) (f : FZ G v (eb x)) (pi : SP ti G vi) (ri : RD G vi (eU D.int k)) (c : (m.map (·.1)).Nodup ∧ m.length < 10000000)
    (eG : G.set i (some (.dt ((putM m k x).map fun p => (kU p.1, eb p.2)))) = G') (q : u Ds G') : dSeq (dStore pb te (dVar i) ti) u Ds G := by
  show dStore pb te (dVar i) ti _ G
  refine p _ (f.w ((sp_var h trivial) _ (pi _ ⟨.inl rfl, ri.rd _ ?_⟩)))
  have ea : atE G i none = some (.dt (m.map fun p => (kU p.1, eb p.2))) := by unfold atE; rw [h]
  rw [ea]
  show (match keysOf (k.map D.int) with | some k => _ | none => False)
  rw [keysOf_ints]
  refine ⟨nodup_map_inj kU eb inj_U c.1, by rw [List.length_map]; exact c.2, ?_⟩
  show u Ds (G.set i _)
  rw [putL_map kU eb inj_U]
  rw [show putL m k x = putM m k x from rfl, eG]; exact q
/-- xs[a][b] = x : a list of dicts of its own -/
theorem p_stoLK {β : Type} {eb : β → D} {l : List (List (Int × β))} {a k : Int} {x : β} {tA ti : DTE} {vA vi : Vl} {u : DTS} (h : G[i]? = some (some (.ll (l.map (tK eb))))) (p : SP te G v) (f : FZ G v (eb x)) (pA : SP tA G vA) (rA : RD G vA (.int a)) (pi : SP ti G vi) (ri : RD G vi (.int k)) (ca : 0 ≤ a ∧ a < l.length) (c : ((gi l a).map (·.1)).Nodup ∧ (gi l a).length < 10000000)
    (eG : G.set i (some (.ll ((l.set a.toNat (putM (gi l a) k x)).map (tK eb)))) = G') (q : u Ds G') : dSeq (dStore true te (dKid (dVar i) tA) ti) u Ds G := by
  show dStore true te (dKid (dVar i) tA) ti _ G
  obtain ⟨n, rfl⟩ := Int.eq_ofNat_of_zero_le ca.1
  have hn : n < l.length := by omega
  have eg : gi l (n : Int) = l[n] := by
    unfold gi atI ixN
    rw [if_pos (by omega), if_pos (by omega)]
    show (l[(n : Int).toNat]?).getD default = _
    rw [Int.toNat_natCast, List.getElem?_eq_getElem hn]; rfl
  rw [eg] at c eG
  have el : (l.map (tK eb))[n]? = some (tK eb l[n]) := by rw [List.getElem?_map, List.getElem?_eq_getElem hn]; rfl
  have ei : ixN (l.map (tK eb)).length (n : Int) = some n := by unfold ixN; rw [if_pos (by omega), if_pos (by rw [List.length_map]; omega)]; rfl
  have ea : atE G i (some (.ix n)) = some (tK eb l[n]) := by unfold atE; rw [h]; exact el
  refine p _ (f.w ((sp_var h trivial) _ (pA _ (rA.rd _ ?_))))
  show (match G[i]? with | some (some (.ll ts)) => (match ixN ts.length (n : Int) with | some k => (match ts[k]? with | some (.fz d) => _ | some _ => _ | none => False) | none => False) | _ => False)
  rw [h]
  dsimp only
  rw [ei]
  dsimp only
  rw [el]
  dsimp only
  refine pi _ ⟨.inr rfl, ri.rd _ ?_⟩
  rw [ea]
  refine ⟨nodup_map_inj (fun x : Int => (Sum.inl x : Key)) eb inj_I c.1, by rw [List.length_map]; exact c.2, ?_⟩
  show u Ds (setE G i (some (.ix n)) _)
  unfold setE
  rw [h]
  dsimp only [T.setKid]
  rw [putL_map (fun x : Int => (Sum.inl x : Key)) eb inj_I]
  rw [show T.dk ((putL l[n] k x).map fun p => ((Sum.inl p.1 : Key), eb p.2)) = tK eb (putM l[n] k x) from rfl, set_map]
  rw [Int.toNat_natCast] at eG
  rw [eG]; exact q
end
end DL

/-! Typed statements: loops, joins (printed by mkfor.py). -/
namespace DL
open PySem PySem.Spec L2
def bnd {α : Type} (e : α) (k : α → Prop) : Prop := ∀ x, x = e → k x
def wIf (b : Bool) (A B : Prop) : Prop := (b = true → A) ∧ (b = false → B)
theorem q_ite {b : Bool} {A B : Prop} (h1 : b = true → A) (h2 : b = false → B) : if b = true then A else B := by
  cases b with
  | true => rw [if_pos rfl]; exact h1 rfl
  | false => rw [if_neg Bool.false_ne_true]; exact h2 rfl
theorem irange_nil {lo hi : Int} (h : hi ≤ lo) : irange lo hi = [] := by unfold irange; rw [show (hi - lo).toNat = 0 by omega]; rfl
theorem irange_cons {lo hi : Int} (h : lo < hi) : irange lo hi = lo :: irange (lo + 1) hi := by
  unfold irange
  rw [show (hi - lo).toNat = (hi - (lo + 1)).toNat + 1 by omega, List.range_succ_eq_map, List.map_cons, List.map_map]
  congr 1
  · simp
  · refine List.map_congr_left fun i _ => ?_
    show lo + ((i + 1 : Nat) : Int) = lo + 1 + (i : Nat)
    omega
theorem mem_irange {lo hi x : Int} : x ∈ irange lo hi ↔ lo ≤ x ∧ x < hi := by
  unfold irange
  rw [List.mem_map]
  constructor
  · rintro ⟨i, hi', rfl⟩
    have := List.mem_range.mp hi'
    omega
  · rintro ⟨h1, h2⟩
    exact ⟨(x - lo).toNat, List.mem_range.mpr (by omega), by omega⟩
theorem irange_length (lo hi : Int) : (irange lo hi).length = (hi - lo).toNat := by unfold irange; simp
section
variable {α : Type} {G : En} {Ds : DEnds} {ti : DTI} {g : DTG} {tb u : DTS} {tc : DTT}
def wFor0 : List α → (α → (Prop) → Prop) → (Prop) → Prop
  | [], _, k => k
  | x :: r, step, k => step x (wFor0 r step k)
theorem sim_for0 (e : α → D) (E : En) {step : α → (Prop) → Prop} {k : Prop}
    (hs : ∀ (x : α) (P : Prop) (C : En → Prop), step x P → (P → C (E)) → g (e x) (E) fun G2 => tb ⟨C, Ds.rt⟩ G2) (hk : k → u Ds (E)) : ∀ (xs : List α), wFor0 xs step k → forW g tb ⟨u Ds, Ds.rt⟩ (xs.map e) (E)
  | [], h => hk h
  | x :: r, h => hs x _ _ h fun h => sim_for0 e E hs hk r h
theorem q_for0 (e : α → D) (E : En) {xs : List α} {step : α → (Prop) → Prop} {k : Prop} (pi : SI ti G (xs.map e)) (hG : G = E) (h : wFor0 xs step k)
    (hs : ∀ (x : α) (P : Prop) (C : En → Prop), step x P → (P → C (E)) → g (e x) (E) fun G2 => tb ⟨C, Ds.rt⟩ G2) (hk : k → u Ds (E)) : dSeq (dFor ti g tb) u Ds G := pi _ (by rw [hG]; exact sim_for0 e E hs hk xs h)
theorem wFor0_inv' {step : α → (Prop) → Prop} {k : Prop} (I : List α → Prop) (xs : List α) (fin : I xs → k)
    (hs : ∀ (pre : List α) (x : α) (post : List α) (C : Prop), xs = pre ++ x :: post → I pre → (I (pre ++ [x]) → C) → step x C) : ∀ (r pre : List α), xs = pre ++ r → I pre → wFor0 r step k
  | [], pre, e, h => fin (by rw [e, List.append_nil]; exact h)
  | x :: r, pre, e, h => hs pre x r _ e h fun h => wFor0_inv' I xs fin hs r (pre ++ [x]) (by rw [e]; simp) h
theorem wFor0_inv {xs : List α} {step : α → (Prop) → Prop} {k : Prop} (I : List α → Prop) (h0 : I []) (fin : I xs → k)
    (hs : ∀ (pre : List α) (x : α) (post : List α) (C : Prop), xs = pre ++ x :: post → I pre → (I (pre ++ [x]) → C) → step x C) : wFor0 xs step k := wFor0_inv' I xs fin hs xs [] rfl h0
theorem wFor0_z' {step : Int → (Prop) → Prop} {k : Prop} {hi : Int} (I : Int → Prop) (fin : I hi → k)
    (hs : ∀ (x : Int) (C : Prop), x < hi → I x → (I (x + 1) → C) → step x C) : ∀ (m : Nat) (lo : Int), (hi - lo).toNat = m → lo ≤ hi → I lo → wFor0 (irange lo hi) step k
  | 0, lo, e, h, i => by rw [irange_nil (by omega)]; exact fin (by rw [show hi = lo by omega]; exact i)
  | m + 1, lo, e, h, i => by rw [irange_cons (by omega)]; exact hs lo _ (by omega) i fun i => wFor0_z' I fin hs m (lo + 1) (by omega) (by omega) i
theorem wFor0_z {lo hi : Int} {step : Int → (Prop) → Prop} {k : Prop} (hl : lo ≤ hi) (I : Int → Prop) (h0 : I lo) (fin : I hi → k)
    (hs : ∀ (x : Int) (C : Prop), lo ≤ x → x < hi → I x → (I (x + 1) → C) → step x C) : wFor0 (irange lo hi) step k :=
  wFor0_z' (fun x => lo ≤ x ∧ I x) (fun h => fin h.2) (fun x C h i c => hs x C i.1 h i.2 fun j => c ⟨by have := i.1; omega, j⟩) _ lo rfl hl ⟨Int.le_refl _, h0⟩
def wWhile0 (step : (Prop) → (Prop) → Prop) (k : Prop) : Prop := ∃ W : Nat → Prop, (∃ n, W n) ∧ ∀ n, W n → step (∃ m, m < n ∧ W m) k
theorem q_while0 (E : En) {step : (Prop) → (Prop) → Prop} {k : Prop} (hG : G = E) (h : wWhile0 step k)
    (hs : ∀ (P X : Prop) (C D : En → Prop), step P X → (P → C (E)) → (X → D (E)) → tc (E) fun G1 t => if t = true then tb ⟨C, Ds.rt⟩ G1 else D G1) (hk : k → u Ds (E)) : dSeq (dWhile tc tb) u Ds G := by
  obtain ⟨W, ⟨n, w0⟩, hw⟩ := h
  rw [hG]
  refine ⟨fun n G => W n ∧ G = E, ⟨n,  w0, rfl⟩, ?_⟩
  rintro n G ⟨ w, e⟩
  rw [e]
  exact hs _ _ (fun G2 => ∃ n', n' < n ∧ W n' ∧ G2 = E) (u Ds) (hw n w) (fun ⟨m, hm, w⟩ => ⟨m, hm,  w, rfl⟩) hk
def wJ0 (B : (Prop) → Prop) (k : Prop) : Prop := ∃ I : Prop, B I ∧ (I → k)
theorem wJ0.mk {B : (Prop) → Prop} {k : Prop} (h : B k) : wJ0 B k := ⟨k, h, fun h => h⟩
theorem q_cut0 (E : En) {B : (Prop) → Prop} {k : Prop} (h : wJ0 B k) (hA : ∀ I : Prop, B I → tb ⟨fun G => I ∧ G = E, Ds.rt⟩ G) (hk : k → u Ds (E)) : dSeq (dCut tb) u Ds G := by
  obtain ⟨I, hB, hI⟩ := h
  exact ⟨_, hA I hB, fun G ⟨ h, e⟩ => by subst e; exact hk (hI h)⟩
def wFor1 {A0 : Type} : List α → A0 → (A0 → α → (A0 → Prop) → Prop) → (A0 → Prop) → Prop
  | [], a0, _, k => k a0
  | x :: r, a0, step, k => step a0 x (fun a0 => wFor1 r a0 step k)
theorem sim_for1 {A0 : Type} (e : α → D) (E : A0 → En) {step : A0 → α → (A0 → Prop) → Prop} {k : A0 → Prop}
    (hs : ∀ a0, ∀ (x : α) (P : A0 → Prop) (C : En → Prop), step a0 x P → (∀ a0, P a0 → C (E a0)) → g (e x) (E a0) fun G2 => tb ⟨C, Ds.rt⟩ G2) (hk : ∀ a0, k a0 → u Ds (E a0)) : ∀ (xs : List α) a0, wFor1 xs a0 step k → forW g tb ⟨u Ds, Ds.rt⟩ (xs.map e) (E a0)
  | [], a0, h => hk _ h
  | x :: r, a0, h => hs a0 x _ _ h fun a0 h => sim_for1 e E hs hk r a0 h
theorem q_for1 {A0 : Type} (e : α → D) (E : A0 → En) {xs : List α} {a0 : A0} {step : A0 → α → (A0 → Prop) → Prop} {k : A0 → Prop} (pi : SI ti G (xs.map e)) (hG : G = E a0) (h : wFor1 xs a0 step k)
    (hs : ∀ a0, ∀ (x : α) (P : A0 → Prop) (C : En → Prop), step a0 x P → (∀ a0, P a0 → C (E a0)) → g (e x) (E a0) fun G2 => tb ⟨C, Ds.rt⟩ G2) (hk : ∀ a0, k a0 → u Ds (E a0)) : dSeq (dFor ti g tb) u Ds G := pi _ (by rw [hG]; exact sim_for1 e E hs hk xs a0 h)
theorem wFor1_inv' {A0 : Type} {step : A0 → α → (A0 → Prop) → Prop} {k : A0 → Prop} (I : List α → A0 → Prop) (xs : List α) (fin : ∀ a0, I xs a0 → k a0)
    (hs : ∀ (pre : List α) (x : α) (post : List α) a0 (C : A0 → Prop), xs = pre ++ x :: post → I pre a0 → (∀ a0, I (pre ++ [x]) a0 → C a0) → step a0 x C) : ∀ (r pre : List α) a0, xs = pre ++ r → I pre a0 → wFor1 r a0 step k
  | [], pre, a0, e, h => fin a0 (by rw [e, List.append_nil]; exact h)
  | x :: r, pre, a0, e, h => hs pre x r a0 _ e h fun a0 h => wFor1_inv' I xs fin hs r (pre ++ [x]) a0 (by rw [e]; simp) h
theorem wFor1_inv {A0 : Type} {xs : List α} {a0 : A0} {step : A0 → α → (A0 → Prop) → Prop} {k : A0 → Prop} (I : List α → A0 → Prop) (h0 : I [] a0) (fin : ∀ a0, I xs a0 → k a0)
    (hs : ∀ (pre : List α) (x : α) (post : List α) a0 (C : A0 → Prop), xs = pre ++ x :: post → I pre a0 → (∀ a0, I (pre ++ [x]) a0 → C a0) → step a0 x C) : wFor1 xs a0 step k := wFor1_inv' I xs fin hs xs [] a0 rfl h0
theorem wFor1_z' {A0 : Type} {step : A0 → Int → (A0 → Prop) → Prop} {k : A0 → Prop} {hi : Int} (I : Int → A0 → Prop) (fin : ∀ a0, I hi a0 → k a0)
    (hs : ∀ (x : Int) a0 (C : A0 → Prop), x < hi → I x a0 → (∀ a0, I (x + 1) a0 → C a0) → step a0 x C) : ∀ (m : Nat) (lo : Int) a0, (hi - lo).toNat = m → lo ≤ hi → I lo a0 → wFor1 (irange lo hi) a0 step k
  | 0, lo, a0, e, h, i => by rw [irange_nil (by omega)]; exact fin a0 (by rw [show hi = lo by omega]; exact i)
  | m + 1, lo, a0, e, h, i => by rw [irange_cons (by omega)]; exact hs lo a0 _ (by omega) i fun a0 i => wFor1_z' I fin hs m (lo + 1) a0 (by omega) (by omega) i
theorem wFor1_z {A0 : Type} {lo hi : Int} {a0 : A0} {step : A0 → Int → (A0 → Prop) → Prop} {k : A0 → Prop} (hl : lo ≤ hi) (I : Int → A0 → Prop) (h0 : I lo a0) (fin : ∀ a0, I hi a0 → k a0)
    (hs : ∀ (x : Int) a0 (C : A0 → Prop), lo ≤ x → x < hi → I x a0 → (∀ a0, I (x + 1) a0 → C a0) → step a0 x C) : wFor1 (irange lo hi) a0 step k :=
  wFor1_z' (fun x a0 => lo ≤ x ∧ I x a0) (fun a0 h => fin a0 h.2) (fun x a0 C h i c => hs x a0 C i.1 h i.2 fun a0 j => c a0 ⟨by have := i.1; omega, j⟩) _ lo a0 rfl hl ⟨Int.le_refl _, h0⟩
def wWhile1 {A0 : Type} (a0 : A0) (step : A0 → (A0 → Prop) → (A0 → Prop) → Prop) (k : A0 → Prop) : Prop := ∃ W : Nat → A0 → Prop, (∃ n, W n a0) ∧ ∀ n a0, W n a0 → step a0 (fun a0 => ∃ m, m < n ∧ W m a0) k
theorem q_while1 {A0 : Type} (E : A0 → En) {a0 : A0} {step : A0 → (A0 → Prop) → (A0 → Prop) → Prop} {k : A0 → Prop} (hG : G = E a0) (h : wWhile1 a0 step k)
    (hs : ∀ a0, ∀ (P X : A0 → Prop) (C D : En → Prop), step a0 P X → (∀ a0, P a0 → C (E a0)) → (∀ a0, X a0 → D (E a0)) → tc (E a0) fun G1 t => if t = true then tb ⟨C, Ds.rt⟩ G1 else D G1) (hk : ∀ a0, k a0 → u Ds (E a0)) : dSeq (dWhile tc tb) u Ds G := by
  obtain ⟨W, ⟨n, w0⟩, hw⟩ := h
  rw [hG]
  refine ⟨fun n G => ∃ a0, W n a0 ∧ G = E a0, ⟨n, _,  w0, rfl⟩, ?_⟩
  rintro n G ⟨a0,  w, e⟩
  rw [e]
  exact hs a0 _ _ (fun G2 => ∃ n', n' < n ∧ ∃ a0, W n' a0 ∧ G2 = E a0) (u Ds) (hw n a0 w) (fun a0 ⟨m, hm, w⟩ => ⟨m, hm, _,  w, rfl⟩) hk
def wJ1 {A0 : Type} (B : (A0 → Prop) → Prop) (k : A0 → Prop) : Prop := ∃ I : A0 → Prop, B I ∧ (∀ a0, I a0 → k a0)
theorem wJ1.mk {A0 : Type} {B : (A0 → Prop) → Prop} {k : A0 → Prop} (h : B k) : wJ1 B k := ⟨k, h, fun a0 h => h⟩
theorem q_cut1 {A0 : Type} (E : A0 → En) {B : (A0 → Prop) → Prop} {k : A0 → Prop} (h : wJ1 B k) (hA : ∀ I : A0 → Prop, B I → tb ⟨fun G => ∃ a0, I a0 ∧ G = E a0, Ds.rt⟩ G) (hk : ∀ a0, k a0 → u Ds (E a0)) : dSeq (dCut tb) u Ds G := by
  obtain ⟨I, hB, hI⟩ := h
  exact ⟨_, hA I hB, fun G ⟨a0,  h, e⟩ => by subst e; exact hk a0 (hI a0 h)⟩
def wFor2 {A0 A1 : Type} : List α → A0 → A1 → (A0 → A1 → α → (A0 → A1 → Prop) → Prop) → (A0 → A1 → Prop) → Prop
  | [], a0, a1, _, k => k a0 a1
  | x :: r, a0, a1, step, k => step a0 a1 x (fun a0 a1 => wFor2 r a0 a1 step k)
theorem sim_for2 {A0 A1 : Type} (e : α → D) (E : A0 → A1 → En) {step : A0 → A1 → α → (A0 → A1 → Prop) → Prop} {k : A0 → A1 → Prop}
    (hs : ∀ a0 a1, ∀ (x : α) (P : A0 → A1 → Prop) (C : En → Prop), step a0 a1 x P → (∀ a0 a1, P a0 a1 → C (E a0 a1)) → g (e x) (E a0 a1) fun G2 => tb ⟨C, Ds.rt⟩ G2) (hk : ∀ a0 a1, k a0 a1 → u Ds (E a0 a1)) : ∀ (xs : List α) a0 a1, wFor2 xs a0 a1 step k → forW g tb ⟨u Ds, Ds.rt⟩ (xs.map e) (E a0 a1)
  | [], a0, a1, h => hk _ _ h
  | x :: r, a0, a1, h => hs a0 a1 x _ _ h fun a0 a1 h => sim_for2 e E hs hk r a0 a1 h
theorem q_for2 {A0 A1 : Type} (e : α → D) (E : A0 → A1 → En) {xs : List α} {a0 : A0} {a1 : A1} {step : A0 → A1 → α → (A0 → A1 → Prop) → Prop} {k : A0 → A1 → Prop} (pi : SI ti G (xs.map e)) (hG : G = E a0 a1) (h : wFor2 xs a0 a1 step k)
    (hs : ∀ a0 a1, ∀ (x : α) (P : A0 → A1 → Prop) (C : En → Prop), step a0 a1 x P → (∀ a0 a1, P a0 a1 → C (E a0 a1)) → g (e x) (E a0 a1) fun G2 => tb ⟨C, Ds.rt⟩ G2) (hk : ∀ a0 a1, k a0 a1 → u Ds (E a0 a1)) : dSeq (dFor ti g tb) u Ds G := pi _ (by rw [hG]; exact sim_for2 e E hs hk xs a0 a1 h)
theorem wFor2_inv' {A0 A1 : Type} {step : A0 → A1 → α → (A0 → A1 → Prop) → Prop} {k : A0 → A1 → Prop} (I : List α → A0 → A1 → Prop) (xs : List α) (fin : ∀ a0 a1, I xs a0 a1 → k a0 a1)
    (hs : ∀ (pre : List α) (x : α) (post : List α) a0 a1 (C : A0 → A1 → Prop), xs = pre ++ x :: post → I pre a0 a1 → (∀ a0 a1, I (pre ++ [x]) a0 a1 → C a0 a1) → step a0 a1 x C) : ∀ (r pre : List α) a0 a1, xs = pre ++ r → I pre a0 a1 → wFor2 r a0 a1 step k
  | [], pre, a0, a1, e, h => fin a0 a1 (by rw [e, List.append_nil]; exact h)
  | x :: r, pre, a0, a1, e, h => hs pre x r a0 a1 _ e h fun a0 a1 h => wFor2_inv' I xs fin hs r (pre ++ [x]) a0 a1 (by rw [e]; simp) h
theorem wFor2_inv {A0 A1 : Type} {xs : List α} {a0 : A0} {a1 : A1} {step : A0 → A1 → α → (A0 → A1 → Prop) → Prop} {k : A0 → A1 → Prop} (I : List α → A0 → A1 → Prop) (h0 : I [] a0 a1) (fin : ∀ a0 a1, I xs a0 a1 → k a0 a1)
    (hs : ∀ (pre : List α) (x : α) (post : List α) a0 a1 (C : A0 → A1 → Prop), xs = pre ++ x :: post → I pre a0 a1 → (∀ a0 a1, I (pre ++ [x]) a0 a1 → C a0 a1) → step a0 a1 x C) : wFor2 xs a0 a1 step k := wFor2_inv' I xs fin hs xs [] a0 a1 rfl h0
theorem wFor2_z' {A0 A1 : Type} {step : A0 → A1 → Int → (A0 → A1 → Prop) → Prop} {k : A0 → A1 → Prop} {hi : Int} (I : Int → A0 → A1 → Prop) (fin : ∀ a0 a1, I hi a0 a1 → k a0 a1)
    (hs : ∀ (x : Int) a0 a1 (C : A0 → A1 → Prop), x < hi → I x a0 a1 → (∀ a0 a1, I (x + 1) a0 a1 → C a0 a1) → step a0 a1 x C) : ∀ (m : Nat) (lo : Int) a0 a1, (hi - lo).toNat = m → lo ≤ hi → I lo a0 a1 → wFor2 (irange lo hi) a0 a1 step k
  | 0, lo, a0, a1, e, h, i => by rw [irange_nil (by omega)]; exact fin a0 a1 (by rw [show hi = lo by omega]; exact i)
  | m + 1, lo, a0, a1, e, h, i => by rw [irange_cons (by omega)]; exact hs lo a0 a1 _ (by omega) i fun a0 a1 i => wFor2_z' I fin hs m (lo + 1) a0 a1 (by omega) (by omega) i
theorem wFor2_z {A0 A1 : Type} {lo hi : Int} {a0 : A0} {a1 : A1} {step : A0 → A1 → Int → (A0 → A1 → Prop) → Prop} {k : A0 → A1 → Prop} (hl : lo ≤ hi) (I : Int → A0 → A1 → Prop) (h0 : I lo a0 a1) (fin : ∀ a0 a1, I hi a0 a1 → k a0 a1)
    (hs : ∀ (x : Int) a0 a1 (C : A0 → A1 → Prop), lo ≤ x → x < hi → I x a0 a1 → (∀ a0 a1, I (x + 1) a0 a1 → C a0 a1) → step a0 a1 x C) : wFor2 (irange lo hi) a0 a1 step k :=
  wFor2_z' (fun x a0 a1 => lo ≤ x ∧ I x a0 a1) (fun a0 a1 h => fin a0 a1 h.2) (fun x a0 a1 C h i c => hs x a0 a1 C i.1 h i.2 fun a0 a1 j => c a0 a1 ⟨by have := i.1; omega, j⟩) _ lo a0 a1 rfl hl ⟨Int.le_refl _, h0⟩
def wWhile2 {A0 A1 : Type} (a0 : A0) (a1 : A1) (step : A0 → A1 → (A0 → A1 → Prop) → (A0 → A1 → Prop) → Prop) (k : A0 → A1 → Prop) : Prop := ∃ W : Nat → A0 → A1 → Prop, (∃ n, W n a0 a1) ∧ ∀ n a0 a1, W n a0 a1 → step a0 a1 (fun a0 a1 => ∃ m, m < n ∧ W m a0 a1) k
theorem q_while2 {A0 A1 : Type} (E : A0 → A1 → En) {a0 : A0} {a1 : A1} {step : A0 → A1 → (A0 → A1 → Prop) → (A0 → A1 → Prop) → Prop} {k : A0 → A1 → Prop} (hG : G = E a0 a1) (h : wWhile2 a0 a1 step k)
    (hs : ∀ a0 a1, ∀ (P X : A0 → A1 → Prop) (C D : En → Prop), step a0 a1 P X → (∀ a0 a1, P a0 a1 → C (E a0 a1)) → (∀ a0 a1, X a0 a1 → D (E a0 a1)) → tc (E a0 a1) fun G1 t => if t = true then tb ⟨C, Ds.rt⟩ G1 else D G1) (hk : ∀ a0 a1, k a0 a1 → u Ds (E a0 a1)) : dSeq (dWhile tc tb) u Ds G := by
  obtain ⟨W, ⟨n, w0⟩, hw⟩ := h
  rw [hG]
  refine ⟨fun n G => ∃ a0 a1, W n a0 a1 ∧ G = E a0 a1, ⟨n, _, _,  w0, rfl⟩, ?_⟩
  rintro n G ⟨a0, a1,  w, e⟩
  rw [e]
  exact hs a0 a1 _ _ (fun G2 => ∃ n', n' < n ∧ ∃ a0 a1, W n' a0 a1 ∧ G2 = E a0 a1) (u Ds) (hw n a0 a1 w) (fun a0 a1 ⟨m, hm, w⟩ => ⟨m, hm, _, _,  w, rfl⟩) hk
def wJ2 {A0 A1 : Type} (B : (A0 → A1 → Prop) → Prop) (k : A0 → A1 → Prop) : Prop := ∃ I : A0 → A1 → Prop, B I ∧ (∀ a0 a1, I a0 a1 → k a0 a1)
theorem wJ2.mk {A0 A1 : Type} {B : (A0 → A1 → Prop) → Prop} {k : A0 → A1 → Prop} (h : B k) : wJ2 B k := ⟨k, h, fun a0 a1 h => h⟩
theorem q_cut2 {A0 A1 : Type} (E : A0 → A1 → En) {B : (A0 → A1 → Prop) → Prop} {k : A0 → A1 → Prop} (h : wJ2 B k) (hA : ∀ I : A0 → A1 → Prop, B I → tb ⟨fun G => ∃ a0 a1, I a0 a1 ∧ G = E a0 a1, Ds.rt⟩ G) (hk : ∀ a0 a1, k a0 a1 → u Ds (E a0 a1)) : dSeq (dCut tb) u Ds G := by
  obtain ⟨I, hB, hI⟩ := h
  exact ⟨_, hA I hB, fun G ⟨a0, a1,  h, e⟩ => by subst e; exact hk a0 a1 (hI a0 a1 h)⟩
def wFor3 {A0 A1 A2 : Type} : List α → A0 → A1 → A2 → (A0 → A1 → A2 → α → (A0 → A1 → A2 → Prop) → Prop) → (A0 → A1 → A2 → Prop) → Prop
  | [], a0, a1, a2, _, k => k a0 a1 a2
  | x :: r, a0, a1, a2, step, k => step a0 a1 a2 x (fun a0 a1 a2 => wFor3 r a0 a1 a2 step k)
theorem sim_for3 {A0 A1 A2 : Type} (e : α → D) (E : A0 → A1 → A2 → En) {step : A0 → A1 → A2 → α → (A0 → A1 → A2 → Prop) → Prop} {k : A0 → A1 → A2 → Prop}
    (hs : ∀ a0 a1 a2, ∀ (x : α) (P : A0 → A1 → A2 → Prop) (C : En → Prop), step a0 a1 a2 x P → (∀ a0 a1 a2, P a0 a1 a2 → C (E a0 a1 a2)) → g (e x) (E a0 a1 a2) fun G2 => tb ⟨C, Ds.rt⟩ G2) (hk : ∀ a0 a1 a2, k a0 a1 a2 → u Ds (E a0 a1 a2)) : ∀ (xs : List α) a0 a1 a2, wFor3 xs a0 a1 a2 step k → forW g tb ⟨u Ds, Ds.rt⟩ (xs.map e) (E a0 a1 a2)
  | [], a0, a1, a2, h => hk _ _ _ h
  | x :: r, a0, a1, a2, h => hs a0 a1 a2 x _ _ h fun a0 a1 a2 h => sim_for3 e E hs hk r a0 a1 a2 h
theorem q_for3 {A0 A1 A2 : Type} (e : α → D) (E : A0 → A1 → A2 → En) {xs : List α} {a0 : A0} {a1 : A1} {a2 : A2} {step : A0 → A1 → A2 → α → (A0 → A1 → A2 → Prop) → Prop} {k : A0 → A1 → A2 → Prop} (pi : SI ti G (xs.map e)) (hG : G = E a0 a1 a2) (h : wFor3 xs a0 a1 a2 step k)
    (hs : ∀ a0 a1 a2, ∀ (x : α) (P : A0 → A1 → A2 → Prop) (C : En → Prop), step a0 a1 a2 x P → (∀ a0 a1 a2, P a0 a1 a2 → C (E a0 a1 a2)) → g (e x) (E a0 a1 a2) fun G2 => tb ⟨C, Ds.rt⟩ G2) (hk : ∀ a0 a1 a2, k a0 a1 a2 → u Ds (E a0 a1 a2)) : dSeq (dFor ti g tb) u Ds G := pi _ (by rw [hG]; exact sim_for3 e E hs hk xs a0 a1 a2 h)
theorem wFor3_inv' {A0 A1 A2 : Type} {step : A0 → A1 → A2 → α → (A0 → A1 → A2 → Prop) → Prop} {k : A0 → A1 → A2 → Prop} (I : List α → A0 → A1 → A2 → Prop) (xs : List α) (fin : ∀ a0 a1 a2, I xs a0 a1 a2 → k a0 a1 a2)
    (hs : ∀ (pre : List α) (x : α) (post : List α) a0 a1 a2 (C : A0 → A1 → A2 → Prop), xs = pre ++ x :: post → I pre a0 a1 a2 → (∀ a0 a1 a2, I (pre ++ [x]) a0 a1 a2 → C a0 a1 a2) → step a0 a1 a2 x C) : ∀ (r pre : List α) a0 a1 a2, xs = pre ++ r → I pre a0 a1 a2 → wFor3 r a0 a1 a2 step k
  | [], pre, a0, a1, a2, e, h => fin a0 a1 a2 (by rw [e, List.append_nil]; exact h)
  | x :: r, pre, a0, a1, a2, e, h => hs pre x r a0 a1 a2 _ e h fun a0 a1 a2 h => wFor3_inv' I xs fin hs r (pre ++ [x]) a0 a1 a2 (by rw [e]; simp) h
theorem wFor3_inv {A0 A1 A2 : Type} {xs : List α} {a0 : A0} {a1 : A1} {a2 : A2} {step : A0 → A1 → A2 → α → (A0 → A1 → A2 → Prop) → Prop} {k : A0 → A1 → A2 → Prop} (I : List α → A0 → A1 → A2 → Prop) (h0 : I [] a0 a1 a2) (fin : ∀ a0 a1 a2, I xs a0 a1 a2 → k a0 a1 a2)
    (hs : ∀ (pre : List α) (x : α) (post : List α) a0 a1 a2 (C : A0 → A1 → A2 → Prop), xs = pre ++ x :: post → I pre a0 a1 a2 → (∀ a0 a1 a2, I (pre ++ [x]) a0 a1 a2 → C a0 a1 a2) → step a0 a1 a2 x C) : wFor3 xs a0 a1 a2 step k := wFor3_inv' I xs fin hs xs [] a0 a1 a2 rfl h0
theorem wFor3_z' {A0 A1 A2 : Type} {step : A0 → A1 → A2 → Int → (A0 → A1 → A2 → Prop) → Prop} {k : A0 → A1 → A2 → Prop} {hi : Int} (I : Int → A0 → A1 → A2 → Prop) (fin : ∀ a0 a1 a2, I hi a0 a1 a2 → k a0 a1 a2)
    (hs : ∀ (x : Int) a0 a1 a2 (C : A0 → A1 → A2 → Prop), x < hi → I x a0 a1 a2 → (∀ a0 a1 a2, I (x + 1) a0 a1 a2 → C a0 a1 a2) → step a0 a1 a2 x C) : ∀ (m : Nat) (lo : Int) a0 a1 a2, (hi - lo).toNat = m → lo ≤ hi → I lo a0 a1 a2 → wFor3 (irange lo hi) a0 a1 a2 step k
  | 0, lo, a0, a1, a2, e, h, i => by rw [irange_nil (by omega)]; exact fin a0 a1 a2 (by rw [show hi = lo by omega]; exact i)
  | m + 1, lo, a0, a1, a2, e, h, i => by rw [irange_cons (by omega)]; exact hs lo a0 a1 a2 _ (by omega) i fun a0 a1 a2 i => wFor3_z' I fin hs m (lo + 1) a0 a1 a2 (by omega) (by omega) i
theorem wFor3_z {A0 A1 A2 : Type} {lo hi : Int} {a0 : A0} {a1 : A1} {a2 : A2} {step : A0 → A1 → A2 → Int → (A0 → A1 → A2 → Prop) → Prop} {k : A0 → A1 → A2 → Prop} (hl : lo ≤ hi) (I : Int → A0 → A1 → A2 → Prop) (h0 : I lo a0 a1 a2) (fin : ∀ a0 a1 a2, I hi a0 a1 a2 → k a0 a1 a2)
    (hs : ∀ (x : Int) a0 a1 a2 (C : A0 → A1 → A2 → Prop), lo ≤ x → x < hi → I x a0 a1 a2 → (∀ a0 a1 a2, I (x + 1) a0 a1 a2 → C a0 a1 a2) → step a0 a1 a2 x C) : wFor3 (irange lo hi) a0 a1 a2 step k :=
  wFor3_z' (fun x a0 a1 a2 => lo ≤ x ∧ I x a0 a1 a2) (fun a0 a1 a2 h => fin a0 a1 a2 h.2) (fun x a0 a1 a2 C h i c => hs x a0 a1 a2 C i.1 h i.2 fun a0 a1 a2 j => c a0 a1 a2 ⟨by have := i.1; omega, j⟩) _ lo a0 a1 a2 rfl hl ⟨Int.le_refl _, h0⟩
def wWhile3 {A0 A1 A2 : Type} (a0 : A0) (a1 : A1) (a2 : A2) (step : A0 → A1 → A2 → (A0 → A1 → A2 → Prop) → (A0 → A1 → A2 → Prop) → Prop) (k : A0 → A1 → A2 → Prop) : Prop := ∃ W : Nat → A0 → A1 → A2 → Prop, (∃ n, W n a0 a1 a2) ∧ ∀ n a0 a1 a2, W n a0 a1 a2 → step a0 a1 a2 (fun a0 a1 a2 => ∃ m, m < n ∧ W m a0 a1 a2) k
theorem q_while3 {A0 A1 A2 : Type} (E : A0 → A1 → A2 → En) {a0 : A0} {a1 : A1} {a2 : A2} {step : A0 → A1 → A2 → (A0 → A1 → A2 → Prop) → (A0 → A1 → A2 → Prop) → Prop} {k : A0 → A1 → A2 → Prop} (hG : G = E a0 a1 a2) (h : wWhile3 a0 a1 a2 step k)
    (hs : ∀ a0 a1 a2, ∀ (P X : A0 → A1 → A2 → Prop) (C D : En → Prop), step a0 a1 a2 P X → (∀ a0 a1 a2, P a0 a1 a2 → C (E a0 a1 a2)) → (∀ a0 a1 a2, X a0 a1 a2 → D (E a0 a1 a2)) → tc (E a0 a1 a2) fun G1 t => if t = true then tb ⟨C, Ds.rt⟩ G1 else D G1) (hk : ∀ a0 a1 a2, k a0 a1 a2 → u Ds (E a0 a1 a2)) : dSeq (dWhile tc tb) u Ds G := by
  obtain ⟨W, ⟨n, w0⟩, hw⟩ := h
  rw [hG]
  refine ⟨fun n G => ∃ a0 a1 a2, W n a0 a1 a2 ∧ G = E a0 a1 a2, ⟨n, _, _, _,  w0, rfl⟩, ?_⟩
  rintro n G ⟨a0, a1, a2,  w, e⟩
  rw [e]
  exact hs a0 a1 a2 _ _ (fun G2 => ∃ n', n' < n ∧ ∃ a0 a1 a2, W n' a0 a1 a2 ∧ G2 = E a0 a1 a2) (u Ds) (hw n a0 a1 a2 w) (fun a0 a1 a2 ⟨m, hm, w⟩ => ⟨m, hm, _, _, _,  w, rfl⟩) hk
def wJ3 {A0 A1 A2 : Type} (B : (A0 → A1 → A2 → Prop) → Prop) (k : A0 → A1 → A2 → Prop) : Prop := ∃ I : A0 → A1 → A2 → Prop, B I ∧ (∀ a0 a1 a2, I a0 a1 a2 → k a0 a1 a2)
theorem wJ3.mk {A0 A1 A2 : Type} {B : (A0 → A1 → A2 → Prop) → Prop} {k : A0 → A1 → A2 → Prop} (h : B k) : wJ3 B k := ⟨k, h, fun a0 a1 a2 h => h⟩
theorem q_cut3 {A0 A1 A2 : Type} (E : A0 → A1 → A2 → En) {B : (A0 → A1 → A2 → Prop) → Prop} {k : A0 → A1 → A2 → Prop} (h : wJ3 B k) (hA : ∀ I : A0 → A1 → A2 → Prop, B I → tb ⟨fun G => ∃ a0 a1 a2, I a0 a1 a2 ∧ G = E a0 a1 a2, Ds.rt⟩ G) (hk : ∀ a0 a1 a2, k a0 a1 a2 → u Ds (E a0 a1 a2)) : dSeq (dCut tb) u Ds G := by
  obtain ⟨I, hB, hI⟩ := h
  exact ⟨_, hA I hB, fun G ⟨a0, a1, a2,  h, e⟩ => by subst e; exact hk a0 a1 a2 (hI a0 a1 a2 h)⟩
def wFor4 {A0 A1 A2 A3 : Type} : List α → A0 → A1 → A2 → A3 → (A0 → A1 → A2 → A3 → α → (A0 → A1 → A2 → A3 → Prop) → Prop) → (A0 → A1 → A2 → A3 → Prop) → Prop
  | [], a0, a1, a2, a3, _, k => k a0 a1 a2 a3
  | x :: r, a0, a1, a2, a3, step, k => step a0 a1 a2 a3 x (fun a0 a1 a2 a3 => wFor4 r a0 a1 a2 a3 step k)
theorem sim_for4 {A0 A1 A2 A3 : Type} (e : α → D) (E : A0 → A1 → A2 → A3 → En) {step : A0 → A1 → A2 → A3 → α → (A0 → A1 → A2 → A3 → Prop) → Prop} {k : A0 → A1 → A2 → A3 → Prop}
    (hs : ∀ a0 a1 a2 a3, ∀ (x : α) (P : A0 → A1 → A2 → A3 → Prop) (C : En → Prop), step a0 a1 a2 a3 x P → (∀ a0 a1 a2 a3, P a0 a1 a2 a3 → C (E a0 a1 a2 a3)) → g (e x) (E a0 a1 a2 a3) fun G2 => tb ⟨C, Ds.rt⟩ G2) (hk : ∀ a0 a1 a2 a3, k a0 a1 a2 a3 → u Ds (E a0 a1 a2 a3)) : ∀ (xs : List α) a0 a1 a2 a3, wFor4 xs a0 a1 a2 a3 step k → forW g tb ⟨u Ds, Ds.rt⟩ (xs.map e) (E a0 a1 a2 a3)
  | [], a0, a1, a2, a3, h => hk _ _ _ _ h
  | x :: r, a0, a1, a2, a3, h => hs a0 a1 a2 a3 x _ _ h fun a0 a1 a2 a3 h => sim_for4 e E hs hk r a0 a1 a2 a3 h
theorem q_for4 {A0 A1 A2 A3 : Type} (e : α → D) (E : A0 → A1 → A2 → A3 → En) {xs : List α} {a0 : A0} {a1 : A1} {a2 : A2} {a3 : A3} {step : A0 → A1 → A2 → A3 → α → (A0 → A1 → A2 → A3 → Prop) → Prop} {k : A0 → A1 → A2 → A3 → Prop} (pi : SI ti G (xs.map e)) (hG : G = E a0 a1 a2 a3) (h : wFor4 xs a0 a1 a2 a3 step k)
    (hs : ∀ a0 a1 a2 a3, ∀ (x : α) (P : A0 → A1 → A2 → A3 → Prop) (C : En → Prop), step a0 a1 a2 a3 x P → (∀ a0 a1 a2 a3, P a0 a1 a2 a3 → C (E a0 a1 a2 a3)) → g (e x) (E a0 a1 a2 a3) fun G2 => tb ⟨C, Ds.rt⟩ G2) (hk : ∀ a0 a1 a2 a3, k a0 a1 a2 a3 → u Ds (E a0 a1 a2 a3)) : dSeq (dFor ti g tb) u Ds G := pi _ (by rw [hG]; exact sim_for4 e E hs hk xs a0 a1 a2 a3 h)
theorem wFor4_inv' {A0 A1 A2 A3 : Type} {step : A0 → A1 → A2 → A3 → α → (A0 → A1 → A2 → A3 → Prop) → Prop} {k : A0 → A1 → A2 → A3 → Prop} (I : List α → A0 → A1 → A2 → A3 → Prop) (xs : List α) (fin : ∀ a0 a1 a2 a3, I xs a0 a1 a2 a3 → k a0 a1 a2 a3)
    (hs : ∀ (pre : List α) (x : α) (post : List α) a0 a1 a2 a3 (C : A0 → A1 → A2 → A3 → Prop), xs = pre ++ x :: post → I pre a0 a1 a2 a3 → (∀ a0 a1 a2 a3, I (pre ++ [x]) a0 a1 a2 a3 → C a0 a1 a2 a3) → step a0 a1 a2 a3 x C) : ∀ (r pre : List α) a0 a1 a2 a3, xs = pre ++ r → I pre a0 a1 a2 a3 → wFor4 r a0 a1 a2 a3 step k
  | [], pre, a0, a1, a2, a3, e, h => fin a0 a1 a2 a3 (by rw [e, List.append_nil]; exact h)
  | x :: r, pre, a0, a1, a2, a3, e, h => hs pre x r a0 a1 a2 a3 _ e h fun a0 a1 a2 a3 h => wFor4_inv' I xs fin hs r (pre ++ [x]) a0 a1 a2 a3 (by rw [e]; simp) h
theorem wFor4_inv {A0 A1 A2 A3 : Type} {xs : List α} {a0 : A0} {a1 : A1} {a2 : A2} {a3 : A3} {step : A0 → A1 → A2 → A3 → α → (A0 → A1 → A2 → A3 → Prop) → Prop} {k : A0 → A1 → A2 → A3 → Prop} (I : List α → A0 → A1 → A2 → A3 → Prop) (h0 : I [] a0 a1 a2 a3) (fin : ∀ a0 a1 a2 a3, I xs a0 a1 a2 a3 → k a0 a1 a2 a3)
    (hs : ∀ (pre : List α) (x : α) (post : List α) a0 a1 a2 a3 (C : A0 → A1 → A2 → A3 → Prop), xs = pre ++ x :: post → I pre a0 a1 a2 a3 → (∀ a0 a1 a2 a3, I (pre ++ [x]) a0 a1 a2 a3 → C a0 a1 a2 a3) → step a0 a1 a2 a3 x C) : wFor4 xs a0 a1 a2 a3 step k := wFor4_inv' I xs fin hs xs [] a0 a1 a2 a3 rfl h0
theorem wFor4_z' {A0 A1 A2 A3 : Type} {step : A0 → A1 → A2 → A3 → Int → (A0 → A1 → A2 → A3 → Prop) → Prop} {k : A0 → A1 → A2 → A3 → Prop} {hi : Int} (I : Int → A0 → A1 → A2 → A3 → Prop) (fin : ∀ a0 a1 a2 a3, I hi a0 a1 a2 a3 → k a0 a1 a2 a3)
    (hs : ∀ (x : Int) a0 a1 a2 a3 (C : A0 → A1 → A2 → A3 → Prop), x < hi → I x a0 a1 a2 a3 → (∀ a0 a1 a2 a3, I (x + 1) a0 a1 a2 a3 → C a0 a1 a2 a3) → step a0 a1 a2 a3 x C) : ∀ (m : Nat) (lo : Int) a0 a1 a2 a3, (hi - lo).toNat = m → lo ≤ hi → I lo a0 a1 a2 a3 → wFor4 (irange lo hi) a0 a1 a2 a3 step k
  | 0, lo, a0, a1, a2, a3, e, h, i => by rw [irange_nil (by omega)]; exact fin a0 a1 a2 a3 (by rw [show hi = lo by omega]; exact i)
  | m + 1, lo, a0, a1, a2, a3, e, h, i => by rw [irange_cons (by omega)]; exact hs lo a0 a1 a2 a3 _ (by omega) i fun a0 a1 a2 a3 i => wFor4_z' I fin hs m (lo + 1) a0 a1 a2 a3 (by omega) (by omega) i
theorem wFor4_z {A0 A1 A2 A3 : Type} {lo hi : Int} {a0 : A0} {a1 : A1} {a2 : A2} {a3 : A3} {step : A0 → A1 → A2 → A3 → Int → (A0 → A1 → A2 → A3 → Prop) → Prop} {k : A0 → A1 → A2 → A3 → Prop} (hl : lo ≤ hi) (I : Int → A0 → A1 → A2 → A3 → Prop) (h0 : I lo a0 a1 a2 a3) (fin : ∀ a0 a1 a2 a3, I hi a0 a1 a2 a3 → k a0 a1 a2 a3)
    (hs : ∀ (x : Int) a0 a1 a2 a3 (C : A0 → A1 → A2 → A3 → Prop), lo ≤ x → x < hi → I x a0 a1 a2 a3 → (∀ a0 a1 a2 a3, I (x + 1) a0 a1 a2 a3 → C a0 a1 a2 a3) → step a0 a1 a2 a3 x C) : wFor4 (irange lo hi) a0 a1 a2 a3 step k :=
  wFor4_z' (fun x a0 a1 a2 a3 => lo ≤ x ∧ I x a0 a1 a2 a3) (fun a0 a1 a2 a3 h => fin a0 a1 a2 a3 h.2) (fun x a0 a1 a2 a3 C h i c => hs x a0 a1 a2 a3 C i.1 h i.2 fun a0 a1 a2 a3 j => c a0 a1 a2 a3 ⟨by have := i.1; omega, j⟩) _ lo a0 a1 a2 a3 rfl hl ⟨Int.le_refl _, h0⟩
def wWhile4 {A0 A1 A2 A3 : Type} (a0 : A0) (a1 : A1) (a2 : A2) (a3 : A3) (step : A0 → A1 → A2 → A3 → (A0 → A1 → A2 → A3 → Prop) → (A0 → A1 → A2 → A3 → Prop) → Prop) (k : A0 → A1 → A2 → A3 → Prop) : Prop := ∃ W : Nat → A0 → A1 → A2 → A3 → Prop, (∃ n, W n a0 a1 a2 a3) ∧ ∀ n a0 a1 a2 a3, W n a0 a1 a2 a3 → step a0 a1 a2 a3 (fun a0 a1 a2 a3 => ∃ m, m < n ∧ W m a0 a1 a2 a3) k
theorem q_while4 {A0 A1 A2 A3 : Type} (E : A0 → A1 → A2 → A3 → En) {a0 : A0} {a1 : A1} {a2 : A2} {a3 : A3} {step : A0 → A1 → A2 → A3 → (A0 → A1 → A2 → A3 → Prop) → (A0 → A1 → A2 → A3 → Prop) → Prop} {k : A0 → A1 → A2 → A3 → Prop} (hG : G = E a0 a1 a2 a3) (h : wWhile4 a0 a1 a2 a3 step k)
    (hs : ∀ a0 a1 a2 a3, ∀ (P X : A0 → A1 → A2 → A3 → Prop) (C D : En → Prop), step a0 a1 a2 a3 P X → (∀ a0 a1 a2 a3, P a0 a1 a2 a3 → C (E a0 a1 a2 a3)) → (∀ a0 a1 a2 a3, X a0 a1 a2 a3 → D (E a0 a1 a2 a3)) → tc (E a0 a1 a2 a3) fun G1 t => if t = true then tb ⟨C, Ds.rt⟩ G1 else D G1) (hk : ∀ a0 a1 a2 a3, k a0 a1 a2 a3 → u Ds (E a0 a1 a2 a3)) : dSeq (dWhile tc tb) u Ds G := by
  obtain ⟨W, ⟨n, w0⟩, hw⟩ := h
  rw [hG]
  refine ⟨fun n G => ∃ a0 a1 a2 a3, W n a0 a1 a2 a3 ∧ G = E a0 a1 a2 a3, ⟨n, _, _, _, _,  w0, rfl⟩, ?_⟩
  rintro n G ⟨a0, a1, a2, a3,  w, e⟩
  rw [e]
  exact hs a0 a1 a2 a3 _ _ (fun G2 => ∃ n', n' < n ∧ ∃ a0 a1 a2 a3, W n' a0 a1 a2 a3 ∧ G2 = E a0 a1 a2 a3) (u Ds) (hw n a0 a1 a2 a3 w) (fun a0 a1 a2 a3 ⟨m, hm, w⟩ => ⟨m, hm, _, _, _, _,  w, rfl⟩) hk
def wJ4 {A0 A1 A2 A3 : Type} (B : (A0 → A1 → A2 → A3 → Prop) → Prop) (k : A0 → A1 → A2 → A3 → Prop) : Prop := ∃ I : A0 → A1 → A2 → A3 → Prop, B I ∧ (∀ a0 a1 a2 a3, I a0 a1 a2 a3 → k a0 a1 a2 a3)
theorem wJ4.mk {A0 A1 A2 A3 : Type} {B : (A0 → A1 → A2 → A3 → Prop) → Prop} {k : A0 → A1 → A2 → A3 → Prop} (h : B k) : wJ4 B k := ⟨k, h, fun a0 a1 a2 a3 h => h⟩
theorem q_cut4 {A0 A1 A2 A3 : Type} (E : A0 → A1 → A2 → A3 → En) {B : (A0 → A1 → A2 → A3 → Prop) → Prop} {k : A0 → A1 → A2 → A3 → Prop} (h : wJ4 B k) (hA : ∀ I : A0 → A1 → A2 → A3 → Prop, B I → tb ⟨fun G => ∃ a0 a1 a2 a3, I a0 a1 a2 a3 ∧ G = E a0 a1 a2 a3, Ds.rt⟩ G) (hk : ∀ a0 a1 a2 a3, k a0 a1 a2 a3 → u Ds (E a0 a1 a2 a3)) : dSeq (dCut tb) u Ds G := by
  obtain ⟨I, hB, hI⟩ := h
  exact ⟨_, hA I hB, fun G ⟨a0, a1, a2, a3,  h, e⟩ => by subst e; exact hk a0 a1 a2 a3 (hI a0 a1 a2 a3 h)⟩
def wFor5 {A0 A1 A2 A3 A4 : Type} : List α → A0 → A1 → A2 → A3 → A4 → (A0 → A1 → A2 → A3 → A4 → α → (A0 → A1 → A2 → A3 → A4 → Prop) → Prop) → (A0 → A1 → A2 → A3 → A4 → Prop) → Prop
  | [], a0, a1, a2, a3, a4, _, k => k a0 a1 a2 a3 a4
  | x :: r, a0, a1, a2, a3, a4, step, k => step a0 a1 a2 a3 a4 x (fun a0 a1 a2 a3 a4 => wFor5 r a0 a1 a2 a3 a4 step k)
theorem sim_for5 {A0 A1 A2 A3 A4 : Type} (e : α → D) (E : A0 → A1 → A2 → A3 → A4 → En) {step : A0 → A1 → A2 → A3 → A4 → α → (A0 → A1 → A2 → A3 → A4 → Prop) → Prop} {k : A0 → A1 → A2 → A3 → A4 → Prop}
    (hs : ∀ a0 a1 a2 a3 a4, ∀ (x : α) (P : A0 → A1 → A2 → A3 → A4 → Prop) (C : En → Prop), step a0 a1 a2 a3 a4 x P → (∀ a0 a1 a2 a3 a4, P a0 a1 a2 a3 a4 → C (E a0 a1 a2 a3 a4)) → g (e x) (E a0 a1 a2 a3 a4) fun G2 => tb ⟨C, Ds.rt⟩ G2) (hk : ∀ a0 a1 a2 a3 a4, k a0 a1 a2 a3 a4 → u Ds (E a0 a1 a2 a3 a4)) : ∀ (xs : List α) a0 a1 a2 a3 a4, wFor5 xs a0 a1 a2 a3 a4 step k → forW g tb ⟨u Ds, Ds.rt⟩ (xs.map e) (E a0 a1 a2 a3 a4)
  | [], a0, a1, a2, a3, a4, h => hk _ _ _ _ _ h
  | x :: r, a0, a1, a2, a3, a4, h => hs a0 a1 a2 a3 a4 x _ _ h fun a0 a1 a2 a3 a4 h => sim_for5 e E hs hk r a0 a1 a2 a3 a4 h
theorem q_for5 {A0 A1 A2 A3 A4 : Type} (e : α → D) (E : A0 → A1 → A2 → A3 → A4 → En) {xs : List α} {a0 : A0} {a1 : A1} {a2 : A2} {a3 : A3} {a4 : A4} {step : A0 → A1 → A2 → A3 → A4 → α → (A0 → A1 → A2 → A3 → A4 → Prop) → Prop} {k : A0 → A1 → A2 → A3 → A4 → Prop} (pi : SI ti G (xs.map e)) (hG : G = E a0 a1 a2 a3 a4) (h : wFor5 xs a0 a1 a2 a3 a4 step k)
    (hs : ∀ a0 a1 a2 a3 a4, ∀ (x : α) (P : A0 → A1 → A2 → A3 → A4 → Prop) (C : En → Prop), step a0 a1 a2 a3 a4 x P → (∀ a0 a1 a2 a3 a4, P a0 a1 a2 a3 a4 → C (E a0 a1 a2 a3 a4)) → g (e x) (E a0 a1 a2 a3 a4) fun G2 => tb ⟨C, Ds.rt⟩ G2) (hk : ∀ a0 a1 a2 a3 a4, k a0 a1 a2 a3 a4 → u Ds (E a0 a1 a2 a3 a4)) : dSeq (dFor ti g tb) u Ds G := pi _ (by rw [hG]; exact sim_for5 e E hs hk xs a0 a1 a2 a3 a4 h)
theorem wFor5_inv' {A0 A1 A2 A3 A4 : Type} {step : A0 → A1 → A2 → A3 → A4 → α → (A0 → A1 → A2 → A3 → A4 → Prop) → Prop} {k : A0 → A1 → A2 → A3 → A4 → Prop} (I : List α → A0 → A1 → A2 → A3 → A4 → Prop) (xs : List α) (fin : ∀ a0 a1 a2 a3 a4, I xs a0 a1 a2 a3 a4 → k a0 a1 a2 a3 a4)
    (hs : ∀ (pre : List α) (x : α) (post : List α) a0 a1 a2 a3 a4 (C : A0 → A1 → A2 → A3 → A4 → Prop), xs = pre ++ x :: post → I pre a0 a1 a2 a3 a4 → (∀ a0 a1 a2 a3 a4, I (pre ++ [x]) a0 a1 a2 a3 a4 → C a0 a1 a2 a3 a4) → step a0 a1 a2 a3 a4 x C) : ∀ (r pre : List α) a0 a1 a2 a3 a4, xs = pre ++ r → I pre a0 a1 a2 a3 a4 → wFor5 r a0 a1 a2 a3 a4 step k
  | [], pre, a0, a1, a2, a3, a4, e, h => fin a0 a1 a2 a3 a4 (by rw [e, List.append_nil]; exact h)
  | x :: r, pre, a0, a1, a2, a3, a4, e, h => hs pre x r a0 a1 a2 a3 a4 _ e h fun a0 a1 a2 a3 a4 h => wFor5_inv' I xs fin hs r (pre ++ [x]) a0 a1 a2 a3 a4 (by rw [e]; simp) h
theorem wFor5_inv {A0 A1 A2 A3 A4 : Type} {xs : List α} {a0 : A0} {a1 : A1} {a2 : A2} {a3 : A3} {a4 : A4} {step : A0 → A1 → A2 → A3 → A4 → α → (A0 → A1 → A2 → A3 → A4 → Prop) → Prop} {k : A0 → A1 → A2 → A3 → A4 → Prop} (I : List α → A0 → A1 → A2 → A3 → A4 → Prop) (h0 : I [] a0 a1 a2 a3 a4) (fin : ∀ a0 a1 a2 a3 a4, I xs a0 a1 a2 a3 a4 → k a0 a1 a2 a3 a4)
    (hs : ∀ (pre : List α) (x : α) (post : List α) a0 a1 a2 a3 a4 (C : A0 → A1 → A2 → A3 → A4 → Prop), xs = pre ++ x :: post → I pre a0 a1 a2 a3 a4 → (∀ a0 a1 a2 a3 a4, I (pre ++ [x]) a0 a1 a2 a3 a4 → C a0 a1 a2 a3 a4) → step a0 a1 a2 a3 a4 x C) : wFor5 xs a0 a1 a2 a3 a4 step k := wFor5_inv' I xs fin hs xs [] a0 a1 a2 a3 a4 rfl h0
theorem wFor5_z' {A0 A1 A2 A3 A4 : Type} {step : A0 → A1 → A2 → A3 → A4 → Int → (A0 → A1 → A2 → A3 → A4 → Prop) → Prop} {k : A0 → A1 → A2 → A3 → A4 → Prop} {hi : Int} (I : Int → A0 → A1 → A2 → A3 → A4 → Prop) (fin : ∀ a0 a1 a2 a3 a4, I hi a0 a1 a2 a3 a4 → k a0 a1 a2 a3 a4)
    (hs : ∀ (x : Int) a0 a1 a2 a3 a4 (C : A0 → A1 → A2 → A3 → A4 → Prop), x < hi → I x a0 a1 a2 a3 a4 → (∀ a0 a1 a2 a3 a4, I (x + 1) a0 a1 a2 a3 a4 → C a0 a1 a2 a3 a4) → step a0 a1 a2 a3 a4 x C) : ∀ (m : Nat) (lo : Int) a0 a1 a2 a3 a4, (hi - lo).toNat = m → lo ≤ hi → I lo a0 a1 a2 a3 a4 → wFor5 (irange lo hi) a0 a1 a2 a3 a4 step k
  | 0, lo, a0, a1, a2, a3, a4, e, h, i => by rw [irange_nil (by omega)]; exact fin a0 a1 a2 a3 a4 (by rw [show hi = lo by omega]; exact i)
  | m + 1, lo, a0, a1, a2, a3, a4, e, h, i => by rw [irange_cons (by omega)]; exact hs lo a0 a1 a2 a3 a4 _ (by omega) i fun a0 a1 a2 a3 a4 i => wFor5_z' I fin hs m (lo + 1) a0 a1 a2 a3 a4 (by omega) (by omega) i
theorem wFor5_z {A0 A1 A2 A3 A4 : Type} {lo hi : Int} {a0 : A0} {a1 : A1} {a2 : A2} {a3 : A3} {a4 : A4} {step : A0 → A1 → A2 → A3 → A4 → Int → (A0 → A1 → A2 → A3 → A4 → Prop) → Prop} {k : A0 → A1 → A2 → A3 → A4 → Prop} (hl : lo ≤ hi) (I : Int → A0 → A1 → A2 → A3 → A4 → Prop) (h0 : I lo a0 a1 a2 a3 a4) (fin : ∀ a0 a1 a2 a3 a4, I hi a0 a1 a2 a3 a4 → k a0 a1 a2 a3 a4)
    (hs : ∀ (x : Int) a0 a1 a2 a3 a4 (C : A0 → A1 → A2 → A3 → A4 → Prop), lo ≤ x → x < hi → I x a0 a1 a2 a3 a4 → (∀ a0 a1 a2 a3 a4, I (x + 1) a0 a1 a2 a3 a4 → C a0 a1 a2 a3 a4) → step a0 a1 a2 a3 a4 x C) : wFor5 (irange lo hi) a0 a1 a2 a3 a4 step k :=
  wFor5_z' (fun x a0 a1 a2 a3 a4 => lo ≤ x ∧ I x a0 a1 a2 a3 a4) (fun a0 a1 a2 a3 a4 h => fin a0 a1 a2 a3 a4 h.2) (fun x a0 a1 a2 a3 a4 C h i c => hs x a0 a1 a2 a3 a4 C i.1 h i.2 fun a0 a1 a2 a3 a4 j => c a0 a1 a2 a3 a4 ⟨by have := i.1; omega, j⟩) _ lo a0 a1 a2 a3 a4 rfl hl ⟨Int.le_refl _, h0⟩
def wWhile5 {A0 A1 A2 A3 A4 : Type} (a0 : A0) (a1 : A1) (a2 : A2) (a3 : A3) (a4 : A4) (step : A0 → A1 → A2 → A3 → A4 → (A0 → A1 → A2 → A3 → A4 → Prop) → (A0 → A1 → A2 → A3 → A4 → Prop) → Prop) (k : A0 → A1 → A2 → A3 → A4 → Prop) : Prop := ∃ W : Nat → A0 → A1 → A2 → A3 → A4 → Prop, (∃ n, W n a0 a1 a2 a3 a4) ∧ ∀ n a0 a1 a2 a3 a4, W n a0 a1 a2 a3 a4 → step a0 a1 a2 a3 a4 (fun a0 a1 a2 a3 a4 => ∃ m, m < n ∧ W m a0 a1 a2 a3 a4) k
theorem q_while5 {A0 A1 A2 A3 A4 : Type} (E : A0 → A1 → A2 → A3 → A4 → En) {a0 : A0} {a1 : A1} {a2 : A2} {a3 : A3} {a4 : A4} {step : A0 → A1 → A2 → A3 → A4 → (A0 → A1 → A2 → A3 → A4 → Prop) → (A0 → A1 → A2 → A3 → A4 → Prop) → Prop} {k : A0 → A1 → A2 → A3 → A4 → Prop} (hG : G = E a0 a1 a2 a3 a4) (h : wWhile5 a0 a1 a2 a3 a4 step k)
    (hs : ∀ a0 a1 a2 a3 a4, ∀ (P X : A0 → A1 → A2 → A3 → A4 → Prop) (C D : En → Prop), step a0 a1 a2 a3 a4 P X → (∀ a0 a1 a2 a3 a4, P a0 a1 a2 a3 a4 → C (E a0 a1 a2 a3 a4)) → (∀ a0 a1 a2 a3 a4, X a0 a1 a2 a3 a4 → D (E a0 a1 a2 a3 a4)) → tc (E a0 a1 a2 a3 a4) fun G1 t => if t = true then tb ⟨C, Ds.rt⟩ G1 else D G1) (hk : ∀ a0 a1 a2 a3 a4, k a0 a1 a2 a3 a4 → u Ds (E a0 a1 a2 a3 a4)) : dSeq (dWhile tc tb) u Ds G := by
  obtain ⟨W, ⟨n, w0⟩, hw⟩ := h
  rw [hG]
  refine ⟨fun n G => ∃ a0 a1 a2 a3 a4, W n a0 a1 a2 a3 a4 ∧ G = E a0 a1 a2 a3 a4, ⟨n, _, _, _, _, _,  w0, rfl⟩, ?_⟩
  rintro n G ⟨a0, a1, a2, a3, a4,  w, e⟩
  rw [e]
  exact hs a0 a1 a2 a3 a4 _ _ (fun G2 => ∃ n', n' < n ∧ ∃ a0 a1 a2 a3 a4, W n' a0 a1 a2 a3 a4 ∧ G2 = E a0 a1 a2 a3 a4) (u Ds) (hw n a0 a1 a2 a3 a4 w) (fun a0 a1 a2 a3 a4 ⟨m, hm, w⟩ => ⟨m, hm, _, _, _, _, _,  w, rfl⟩) hk
def wJ5 {A0 A1 A2 A3 A4 : Type} (B : (A0 → A1 → A2 → A3 → A4 → Prop) → Prop) (k : A0 → A1 → A2 → A3 → A4 → Prop) : Prop := ∃ I : A0 → A1 → A2 → A3 → A4 → Prop, B I ∧ (∀ a0 a1 a2 a3 a4, I a0 a1 a2 a3 a4 → k a0 a1 a2 a3 a4)
theorem wJ5.mk {A0 A1 A2 A3 A4 : Type} {B : (A0 → A1 → A2 → A3 → A4 → Prop) → Prop} {k : A0 → A1 → A2 → A3 → A4 → Prop} (h : B k) : wJ5 B k := ⟨k, h, fun a0 a1 a2 a3 a4 h => h⟩
theorem q_cut5 {A0 A1 A2 A3 A4 : Type} (E : A0 → A1 → A2 → A3 → A4 → En) {B : (A0 → A1 → A2 → A3 → A4 → Prop) → Prop} {k : A0 → A1 → A2 → A3 → A4 → Prop} (h : wJ5 B k) (hA : ∀ I : A0 → A1 → A2 → A3 → A4 → Prop, B I → tb ⟨fun G => ∃ a0 a1 a2 a3 a4, I a0 a1 a2 a3 a4 ∧ G = E a0 a1 a2 a3 a4, Ds.rt⟩ G) (hk : ∀ a0 a1 a2 a3 a4, k a0 a1 a2 a3 a4 → u Ds (E a0 a1 a2 a3 a4)) : dSeq (dCut tb) u Ds G := by
  obtain ⟨I, hB, hI⟩ := h
  exact ⟨_, hA I hB, fun G ⟨a0, a1, a2, a3, a4,  h, e⟩ => by subst e; exact hk a0 a1 a2 a3 a4 (hI a0 a1 a2 a3 a4 h)⟩
def wFor6 {A0 A1 A2 A3 A4 A5 : Type} : List α → A0 → A1 → A2 → A3 → A4 → A5 → (A0 → A1 → A2 → A3 → A4 → A5 → α → (A0 → A1 → A2 → A3 → A4 → A5 → Prop) → Prop) → (A0 → A1 → A2 → A3 → A4 → A5 → Prop) → Prop
  | [], a0, a1, a2, a3, a4, a5, _, k => k a0 a1 a2 a3 a4 a5
  | x :: r, a0, a1, a2, a3, a4, a5, step, k => step a0 a1 a2 a3 a4 a5 x (fun a0 a1 a2 a3 a4 a5 => wFor6 r a0 a1 a2 a3 a4 a5 step k)
theorem sim_for6 {A0 A1 A2 A3 A4 A5 : Type} (e : α → D) (E : A0 → A1 → A2 → A3 → A4 → A5 → En) {step : A0 → A1 → A2 → A3 → A4 → A5 → α → (A0 → A1 → A2 → A3 → A4 → A5 → Prop) → Prop} {k : A0 → A1 → A2 → A3 → A4 → A5 → Prop}
    (hs : ∀ a0 a1 a2 a3 a4 a5, ∀ (x : α) (P : A0 → A1 → A2 → A3 → A4 → A5 → Prop) (C : En → Prop), step a0 a1 a2 a3 a4 a5 x P → (∀ a0 a1 a2 a3 a4 a5, P a0 a1 a2 a3 a4 a5 → C (E a0 a1 a2 a3 a4 a5)) → g (e x) (E a0 a1 a2 a3 a4 a5) fun G2 => tb ⟨C, Ds.rt⟩ G2) (hk : ∀ a0 a1 a2 a3 a4 a5, k a0 a1 a2 a3 a4 a5 → u Ds (E a0 a1 a2 a3 a4 a5)) : ∀ (xs : List α) a0 a1 a2 a3 a4 a5, wFor6 xs a0 a1 a2 a3 a4 a5 step k → forW g tb ⟨u Ds, Ds.rt⟩ (xs.map e) (E a0 a1 a2 a3 a4 a5)
  | [], a0, a1, a2, a3, a4, a5, h => hk _ _ _ _ _ _ h
  | x :: r, a0, a1, a2, a3, a4, a5, h => hs a0 a1 a2 a3 a4 a5 x _ _ h fun a0 a1 a2 a3 a4 a5 h => sim_for6 e E hs hk r a0 a1 a2 a3 a4 a5 h
theorem q_for6 {A0 A1 A2 A3 A4 A5 : Type} (e : α → D) (E : A0 → A1 → A2 → A3 → A4 → A5 → En) {xs : List α} {a0 : A0} {a1 : A1} {a2 : A2} {a3 : A3} {a4 : A4} {a5 : A5} {step : A0 → A1 → A2 → A3 → A4 → A5 → α → (A0 → A1 → A2 → A3 → A4 → A5 → Prop) → Prop} {k : A0 → A1 → A2 → A3 → A4 → A5 → Prop} (pi : SI ti G (xs.map e)) (hG : G = E a0 a1 a2 a3 a4 a5) (h : wFor6 xs a0 a1 a2 a3 a4 a5 step k)
    (hs : ∀ a0 a1 a2 a3 a4 a5, ∀ (x : α) (P : A0 → A1 → A2 → A3 → A4 → A5 → Prop) (C : En → Prop), step a0 a1 a2 a3 a4 a5 x P → (∀ a0 a1 a2 a3 a4 a5, P a0 a1 a2 a3 a4 a5 → C (E a0 a1 a2 a3 a4 a5)) → g (e x) (E a0 a1 a2 a3 a4 a5) fun G2 => tb ⟨C, Ds.rt⟩ G2) (hk : ∀ a0 a1 a2 a3 a4 a5, k a0 a1 a2 a3 a4 a5 → u Ds (E a0 a1 a2 a3 a4 a5)) : dSeq (dFor ti g tb) u Ds G := pi _ (by rw [hG]; exact sim_for6 e E hs hk xs a0 a1 a2 a3 a4 a5 h)
theorem wFor6_inv' {A0 A1 A2 A3 A4 A5 : Type} {step : A0 → A1 → A2 → A3 → A4 → A5 → α → (A0 → A1 → A2 → A3 → A4 → A5 → Prop) → Prop} {k : A0 → A1 → A2 → A3 → A4 → A5 → Prop} (I : List α → A0 → A1 → A2 → A3 → A4 → A5 → Prop) (xs : List α) (fin : ∀ a0 a1 a2 a3 a4 a5, I xs a0 a1 a2 a3 a4 a5 → k a0 a1 a2 a3 a4 a5)
    (hs : ∀ (pre : List α) (x : α) (post : List α) a0 a1 a2 a3 a4 a5 (C : A0 → A1 → A2 → A3 → A4 → A5 → Prop), xs = pre ++ x :: post → I pre a0 a1 a2 a3 a4 a5 → (∀ a0 a1 a2 a3 a4 a5, I (pre ++ [x]) a0 a1 a2 a3 a4 a5 → C a0 a1 a2 a3 a4 a5) → step a0 a1 a2 a3 a4 a5 x C) : ∀ (r pre : List α) a0 a1 a2 a3 a4 a5, xs = pre ++ r → I pre a0 a1 a2 a3 a4 a5 → wFor6 r a0 a1 a2 a3 a4 a5 step k
  | [], pre, a0, a1, a2, a3, a4, a5, e, h => fin a0 a1 a2 a3 a4 a5 (by rw [e, List.append_nil]; exact h)
  | x :: r, pre, a0, a1, a2, a3, a4, a5, e, h => hs pre x r a0 a1 a2 a3 a4 a5 _ e h fun a0 a1 a2 a3 a4 a5 h => wFor6_inv' I xs fin hs r (pre ++ [x]) a0 a1 a2 a3 a4 a5 (by rw [e]; simp) h
theorem wFor6_inv {A0 A1 A2 A3 A4 A5 : Type} {xs : List α} {a0 : A0} {a1 : A1} {a2 : A2} {a3 : A3} {a4 : A4} {a5 : A5} {step : A0 → A1 → A2 → A3 → A4 → A5 → α → (A0 → A1 → A2 → A3 → A4 → A5 → Prop) → Prop} {k : A0 → A1 → A2 → A3 → A4 → A5 → Prop} (I : List α → A0 → A1 → A2 → A3 → A4 → A5 → Prop) (h0 : I [] a0 a1 a2 a3 a4 a5) (fin : ∀ a0 a1 a2 a3 a4 a5, I xs a0 a1 a2 a3 a4 a5 → k a0 a1 a2 a3 a4 a5)
    (hs : ∀ (pre : List α) (x : α) (post : List α) a0 a1 a2 a3 a4 a5 (C : A0 → A1 → A2 → A3 → A4 → A5 → Prop), xs = pre ++ x :: post → I pre a0 a1 a2 a3 a4 a5 → (∀ a0 a1 a2 a3 a4 a5, I (pre ++ [x]) a0 a1 a2 a3 a4 a5 → C a0 a1 a2 a3 a4 a5) → step a0 a1 a2 a3 a4 a5 x C) : wFor6 xs a0 a1 a2 a3 a4 a5 step k := wFor6_inv' I xs fin hs xs [] a0 a1 a2 a3 a4 a5 rfl h0
theorem wFor6_z' {A0 A1 A2 A3 A4 A5 : Type} {step : A0 → A1 → A2 → A3 → A4 → A5 → Int → (A0 → A1 → A2 → A3 → A4 → A5 → Prop) → Prop} {k : A0 → A1 → A2 → A3 → A4 → A5 → Prop} {hi : Int} (I : Int → A0 → A1 → A2 → A3 → A4 → A5 → Prop) (fin : ∀ a0 a1 a2 a3 a4 a5, I hi a0 a1 a2 a3 a4 a5 → k a0 a1 a2 a3 a4 a5)
    (hs : ∀ (x : Int) a0 a1 a2 a3 a4 a5 (C : A0 → A1 → A2 → A3 → A4 → A5 → Prop), x < hi → I x a0 a1 a2 a3 a4 a5 → (∀ a0 a1 a2 a3 a4 a5, I (x + 1) a0 a1 a2 a3 a4 a5 → C a0 a1 a2 a3 a4 a5) → step a0 a1 a2 a3 a4 a5 x C) : ∀ (m : Nat) (lo : Int) a0 a1 a2 a3 a4 a5, (hi - lo).toNat = m → lo ≤ hi → I lo a0 a1 a2 a3 a4 a5 → wFor6 (irange lo hi) a0 a1 a2 a3 a4 a5 step k
  | 0, lo, a0, a1, a2, a3, a4, a5, e, h, i => by rw [irange_nil (by omega)]; exact fin a0 a1 a2 a3 a4 a5 (by rw [show hi = lo by omega]; exact i)
  | m + 1, lo, a0, a1, a2, a3, a4, a5, e, h, i => by rw [irange_cons (by omega)]; exact hs lo a0 a1 a2 a3 a4 a5 _ (by omega) i fun a0 a1 a2 a3 a4 a5 i => wFor6_z' I fin hs m (lo + 1) a0 a1 a2 a3 a4 a5 (by omega) (by omega) i
theorem wFor6_z {A0 A1 A2 A3 A4 A5 : Type} {lo hi : Int} {a0 : A0} {a1 : A1} {a2 : A2} {a3 : A3} {a4 : A4} {a5 : A5} {step : A0 → A1 → A2 → A3 → A4 → A5 → Int → (A0 → A1 → A2 → A3 → A4 → A5 → Prop) → Prop} {k : A0 → A1 → A2 → A3 → A4 → A5 → Prop} (hl : lo ≤ hi) (I : Int → A0 → A1 → A2 → A3 → A4 → A5 → Prop) (h0 : I lo a0 a1 a2 a3 a4 a5) (fin : ∀ a0 a1 a2 a3 a4 a5, I hi a0 a1 a2 a3 a4 a5 → k a0 a1 a2 a3 a4 a5)
    (hs : ∀ (x : Int) a0 a1 a2 a3 a4 a5 (C : A0 → A1 → A2 → A3 → A4 → A5 → Prop), lo ≤ x → x < hi → I x a0 a1 a2 a3 a4 a5 → (∀ a0 a1 a2 a3 a4 a5, I (x + 1) a0 a1 a2 a3 a4 a5 → C a0 a1 a2 a3 a4 a5) → step a0 a1 a2 a3 a4 a5 x C) : wFor6 (irange lo hi) a0 a1 a2 a3 a4 a5 step k :=
  wFor6_z' (fun x a0 a1 a2 a3 a4 a5 => lo ≤ x ∧ I x a0 a1 a2 a3 a4 a5) (fun a0 a1 a2 a3 a4 a5 h => fin a0 a1 a2 a3 a4 a5 h.2) (fun x a0 a1 a2 a3 a4 a5 C h i c => hs x a0 a1 a2 a3 a4 a5 C i.1 h i.2 fun a0 a1 a2 a3 a4 a5 j => c a0 a1 a2 a3 a4 a5 ⟨by have := i.1; omega, j⟩) _ lo a0 a1 a2 a3 a4 a5 rfl hl ⟨Int.le_refl _, h0⟩
def wWhile6 {A0 A1 A2 A3 A4 A5 : Type} (a0 : A0) (a1 : A1) (a2 : A2) (a3 : A3) (a4 : A4) (a5 : A5) (step : A0 → A1 → A2 → A3 → A4 → A5 → (A0 → A1 → A2 → A3 → A4 → A5 → Prop) → (A0 → A1 → A2 → A3 → A4 → A5 → Prop) → Prop) (k : A0 → A1 → A2 → A3 → A4 → A5 → Prop) : Prop := ∃ W : Nat → A0 → A1 → A2 → A3 → A4 → A5 → Prop, (∃ n, W n a0 a1 a2 a3 a4 a5) ∧ ∀ n a0 a1 a2 a3 a4 a5, W n a0 a1 a2 a3 a4 a5 → step a0 a1 a2 a3 a4 a5 (fun a0 a1 a2 a3 a4 a5 => ∃ m, m < n ∧ W m a0 a1 a2 a3 a4 a5) k
theorem q_while6 {A0 A1 A2 A3 A4 A5 : Type} (E : A0 → A1 → A2 → A3 → A4 → A5 → En) {a0 : A0} {a1 : A1} {a2 : A2} {a3 : A3} {a4 : A4} {a5 : A5} {step : A0 → A1 → A2 → A3 → A4 → A5 → (A0 → A1 → A2 → A3 → A4 → A5 → Prop) → (A0 → A1 → A2 → A3 → A4 → A5 → Prop) → Prop} {k : A0 → A1 → A2 → A3 → A4 → A5 → Prop} (hG : G = E a0 a1 a2 a3 a4 a5) (h : wWhile6 a0 a1 a2 a3 a4 a5 step k)
    (hs : ∀ a0 a1 a2 a3 a4 a5, ∀ (P X : A0 → A1 → A2 → A3 → A4 → A5 → Prop) (C D : En → Prop), step a0 a1 a2 a3 a4 a5 P X → (∀ a0 a1 a2 a3 a4 a5, P a0 a1 a2 a3 a4 a5 → C (E a0 a1 a2 a3 a4 a5)) → (∀ a0 a1 a2 a3 a4 a5, X a0 a1 a2 a3 a4 a5 → D (E a0 a1 a2 a3 a4 a5)) → tc (E a0 a1 a2 a3 a4 a5) fun G1 t => if t = true then tb ⟨C, Ds.rt⟩ G1 else D G1) (hk : ∀ a0 a1 a2 a3 a4 a5, k a0 a1 a2 a3 a4 a5 → u Ds (E a0 a1 a2 a3 a4 a5)) : dSeq (dWhile tc tb) u Ds G := by
  obtain ⟨W, ⟨n, w0⟩, hw⟩ := h
  rw [hG]
  refine ⟨fun n G => ∃ a0 a1 a2 a3 a4 a5, W n a0 a1 a2 a3 a4 a5 ∧ G = E a0 a1 a2 a3 a4 a5, ⟨n, _, _, _, _, _, _,  w0, rfl⟩, ?_⟩
  rintro n G ⟨a0, a1, a2, a3, a4, a5,  w, e⟩
  rw [e]
  exact hs a0 a1 a2 a3 a4 a5 _ _ (fun G2 => ∃ n', n' < n ∧ ∃ a0 a1 a2 a3 a4 a5, W n' a0 a1 a2 a3 a4 a5 ∧ G2 = E a0 a1 a2 a3 a4 a5) (u Ds) (hw n a0 a1 a2 a3 a4 a5 w) (fun a0 a1 a2 a3 a4 a5 ⟨m, hm, w⟩ => ⟨m, hm, _, _, _, _, _, _,  w, rfl⟩) hk
def wJ6 {A0 A1 A2 A3 A4 A5 : Type} (B : (A0 → A1 → A2 → A3 → A4 → A5 → Prop) → Prop) (k : A0 → A1 → A2 → A3 → A4 → A5 → Prop) : Prop := ∃ I : A0 → A1 → A2 → A3 → A4 → A5 → Prop, B I ∧ (∀ a0 a1 a2 a3 a4 a5, I a0 a1 a2 a3 a4 a5 → k a0 a1 a2 a3 a4 a5)
theorem wJ6.mk {A0 A1 A2 A3 A4 A5 : Type} {B : (A0 → A1 → A2 → A3 → A4 → A5 → Prop) → Prop} {k : A0 → A1 → A2 → A3 → A4 → A5 → Prop} (h : B k) : wJ6 B k := ⟨k, h, fun a0 a1 a2 a3 a4 a5 h => h⟩
theorem q_cut6 {A0 A1 A2 A3 A4 A5 : Type} (E : A0 → A1 → A2 → A3 → A4 → A5 → En) {B : (A0 → A1 → A2 → A3 → A4 → A5 → Prop) → Prop} {k : A0 → A1 → A2 → A3 → A4 → A5 → Prop} (h : wJ6 B k) (hA : ∀ I : A0 → A1 → A2 → A3 → A4 → A5 → Prop, B I → tb ⟨fun G => ∃ a0 a1 a2 a3 a4 a5, I a0 a1 a2 a3 a4 a5 ∧ G = E a0 a1 a2 a3 a4 a5, Ds.rt⟩ G) (hk : ∀ a0 a1 a2 a3 a4 a5, k a0 a1 a2 a3 a4 a5 → u Ds (E a0 a1 a2 a3 a4 a5)) : dSeq (dCut tb) u Ds G := by
  obtain ⟨I, hB, hI⟩ := h
  exact ⟨_, hA I hB, fun G ⟨a0, a1, a2, a3, a4, a5,  h, e⟩ => by subst e; exact hk a0 a1 a2 a3 a4 a5 (hI a0 a1 a2 a3 a4 a5 h)⟩
def wFor7 {A0 A1 A2 A3 A4 A5 A6 : Type} : List α → A0 → A1 → A2 → A3 → A4 → A5 → A6 → (A0 → A1 → A2 → A3 → A4 → A5 → A6 → α → (A0 → A1 → A2 → A3 → A4 → A5 → A6 → Prop) → Prop) → (A0 → A1 → A2 → A3 → A4 → A5 → A6 → Prop) → Prop
  | [], a0, a1, a2, a3, a4, a5, a6, _, k => k a0 a1 a2 a3 a4 a5 a6
  | x :: r, a0, a1, a2, a3, a4, a5, a6, step, k => step a0 a1 a2 a3 a4 a5 a6 x (fun a0 a1 a2 a3 a4 a5 a6 => wFor7 r a0 a1 a2 a3 a4 a5 a6 step k)
theorem sim_for7 {A0 A1 A2 A3 A4 A5 A6 : Type} (e : α → D) (E : A0 → A1 → A2 → A3 → A4 → A5 → A6 → En) {step : A0 → A1 → A2 → A3 → A4 → A5 → A6 → α → (A0 → A1 → A2 → A3 → A4 → A5 → A6 → Prop) → Prop} {k : A0 → A1 → A2 → A3 → A4 → A5 → A6 → Prop}
    (hs : ∀ a0 a1 a2 a3 a4 a5 a6, ∀ (x : α) (P : A0 → A1 → A2 → A3 → A4 → A5 → A6 → Prop) (C : En → Prop), step a0 a1 a2 a3 a4 a5 a6 x P → (∀ a0 a1 a2 a3 a4 a5 a6, P a0 a1 a2 a3 a4 a5 a6 → C (E a0 a1 a2 a3 a4 a5 a6)) → g (e x) (E a0 a1 a2 a3 a4 a5 a6) fun G2 => tb ⟨C, Ds.rt⟩ G2) (hk : ∀ a0 a1 a2 a3 a4 a5 a6, k a0 a1 a2 a3 a4 a5 a6 → u Ds (E a0 a1 a2 a3 a4 a5 a6)) : ∀ (xs : List α) a0 a1 a2 a3 a4 a5 a6, wFor7 xs a0 a1 a2 a3 a4 a5 a6 step k → forW g tb ⟨u Ds, Ds.rt⟩ (xs.map e) (E a0 a1 a2 a3 a4 a5 a6)
  | [], a0, a1, a2, a3, a4, a5, a6, h => hk _ _ _ _ _ _ _ h
  | x :: r, a0, a1, a2, a3, a4, a5, a6, h => hs a0 a1 a2 a3 a4 a5 a6 x _ _ h fun a0 a1 a2 a3 a4 a5 a6 h => sim_for7 e E hs hk r a0 a1 a2 a3 a4 a5 a6 h
theorem q_for7 {A0 A1 A2 A3 A4 A5 A6 : Type} (e : α → D) (E : A0 → A1 → A2 → A3 → A4 → A5 → A6 → En) {xs : List α} {a0 : A0} {a1 : A1} {a2 : A2} {a3 : A3} {a4 : A4} {a5 : A5} {a6 : A6} {step : A0 → A1 → A2 → A3 → A4 → A5 → A6 → α → (A0 → A1 → A2 → A3 → A4 → A5 → A6 → Prop) → Prop} {k : A0 → A1 → A2 → A3 → A4 → A5 → A6 → Prop} (pi : SI ti G (xs.map e)) (hG : G = E a0 a1 a2 a3 a4 a5 a6) (h : wFor7 xs a0 a1 a2 a3 a4 a5 a6 step k)
    (hs : ∀ a0 a1 a2 a3 a4 a5 a6, ∀ (x : α) (P : A0 → A1 → A2 → A3 → A4 → A5 → A6 → Prop) (C : En → Prop), step a0 a1 a2 a3 a4 a5 a6 x P → (∀ a0 a1 a2 a3 a4 a5 a6, P a0 a1 a2 a3 a4 a5 a6 → C (E a0 a1 a2 a3 a4 a5 a6)) → g (e x) (E a0 a1 a2 a3 a4 a5 a6) fun G2 => tb ⟨C, Ds.rt⟩ G2) (hk : ∀ a0 a1 a2 a3 a4 a5 a6, k a0 a1 a2 a3 a4 a5 a6 → u Ds (E a0 a1 a2 a3 a4 a5 a6)) : dSeq (dFor ti g tb) u Ds G := pi _ (by rw [hG]; exact sim_for7 e E hs hk xs a0 a1 a2 a3 a4 a5 a6 h)
theorem wFor7_inv' {A0 A1 A2 A3 A4 A5 A6 : Type} {step : A0 → A1 → A2 → A3 → A4 → A5 → A6 → α → (A0 → A1 → A2 → A3 → A4 → A5 → A6 → Prop) → Prop} {k : A0 → A1 → A2 → A3 → A4 → A5 → A6 → Prop} (I : List α → A0 → A1 → A2 → A3 → A4 → A5 → A6 → Prop) (xs : List α) (fin : ∀ a0 a1 a2 a3 a4 a5 a6, I xs a0 a1 a2 a3 a4 a5 a6 → k a0 a1 a2 a3 a4 a5 a6)
    (hs : ∀ (pre : List α) (x : α) (post : List α) a0 a1 a2 a3 a4 a5 a6 (C : A0 → A1 → A2 → A3 → A4 → A5 → A6 → Prop), xs = pre ++ x :: post → I pre a0 a1 a2 a3 a4 a5 a6 → (∀ a0 a1 a2 a3 a4 a5 a6, I (pre ++ [x]) a0 a1 a2 a3 a4 a5 a6 → C a0 a1 a2 a3 a4 a5 a6) → step a0 a1 a2 a3 a4 a5 a6 x C) : ∀ (r pre : List α) a0 a1 a2 a3 a4 a5 a6, xs = pre ++ r → I pre a0 a1 a2 a3 a4 a5 a6 → wFor7 r a0 a1 a2 a3 a4 a5 a6 step k
  | [], pre, a0, a1, a2, a3, a4, a5, a6, e, h => fin a0 a1 a2 a3 a4 a5 a6 (by rw [e, List.append_nil]; exact h)
  | x :: r, pre, a0, a1, a2, a3, a4, a5, a6, e, h => hs pre x r a0 a1 a2 a3 a4 a5 a6 _ e h fun a0 a1 a2 a3 a4 a5 a6 h => wFor7_inv' I xs fin hs r (pre ++ [x]) a0 a1 a2 a3 a4 a5 a6 (by rw [e]; simp) h
theorem wFor7_inv {A0 A1 A2 A3 A4 A5 A6 : Type} {xs : List α} {a0 : A0} {a1 : A1} {a2 : A2} {a3 : A3} {a4 : A4} {a5 : A5} {a6 : A6} {step : A0 → A1 → A2 → A3 → A4 → A5 → A6 → α → (A0 → A1 → A2 → A3 → A4 → A5 → A6 → Prop) → Prop} {k : A0 → A1 → A2 → A3 → A4 → A5 → A6 → Prop} (I : List α → A0 → A1 → A2 → A3 → A4 → A5 → A6 → Prop) (h0 : I [] a0 a1 a2 a3 a4 a5 a6) (fin : ∀ a0 a1 a2 a3 a4 a5 a6, I xs a0 a1 a2 a3 a4 a5 a6 → k a0 a1 a2 a3 a4 a5 a6)
    (hs : ∀ (pre : List α) (x : α) (post : List α) a0 a1 a2 a3 a4 a5 a6 (C : A0 → A1 → A2 → A3 → A4 → A5 → A6 → Prop), xs = pre ++ x :: post → I pre a0 a1 a2 a3 a4 a5 a6 → (∀ a0 a1 a2 a3 a4 a5 a6, I (pre ++ [x]) a0 a1 a2 a3 a4 a5 a6 → C a0 a1 a2 a3 a4 a5 a6) → step a0 a1 a2 a3 a4 a5 a6 x C) : wFor7 xs a0 a1 a2 a3 a4 a5 a6 step k := wFor7_inv' I xs fin hs xs [] a0 a1 a2 a3 a4 a5 a6 rfl h0
theorem wFor7_z' {A0 A1 A2 A3 A4 A5 A6 : Type} {step : A0 → A1 → A2 → A3 → A4 → A5 → A6 → Int → (A0 → A1 → A2 → A3 → A4 → A5 → A6 → Prop) → Prop} {k : A0 → A1 → A2 → A3 → A4 → A5 → A6 → Prop} {hi : Int} (I : Int → A0 → A1 → A2 → A3 → A4 → A5 → A6 → Prop) (fin : ∀ a0 a1 a2 a3 a4 a5 a6, I hi a0 a1 a2 a3 a4 a5 a6 → k a0 a1 a2 a3 a4 a5 a6)
    (hs : ∀ (x : Int) a0 a1 a2 a3 a4 a5 a6 (C : A0 → A1 → A2 → A3 → A4 → A5 → A6 → Prop), x < hi → I x a0 a1 a2 a3 a4 a5 a6 → (∀ a0 a1 a2 a3 a4 a5 a6, I (x + 1) a0 a1 a2 a3 a4 a5 a6 → C a0 a1 a2 a3 a4 a5 a6) → step a0 a1 a2 a3 a4 a5 a6 x C) : ∀ (m : Nat) (lo : Int) a0 a1 a2 a3 a4 a5 a6, (hi - lo).toNat = m → lo ≤ hi → I lo a0 a1 a2 a3 a4 a5 a6 → wFor7 (irange lo hi) a0 a1 a2 a3 a4 a5 a6 step k
  | 0, lo, a0, a1, a2, a3, a4, a5, a6, e, h, i => by rw [irange_nil (by omega)]; exact fin a0 a1 a2 a3 a4 a5 a6 (by rw [show hi = lo by omega]; exact i)
  | m + 1, lo, a0, a1, a2, a3, a4, a5, a6, e, h, i => by rw [irange_cons (by omega)]; exact hs lo a0 a1 a2 a3 a4 a5 a6 _ (by omega) i fun a0 a1 a2 a3 a4 a5 a6 i => wFor7_z' I fin hs m (lo + 1) a0 a1 a2 a3 a4 a5 a6 (by omega) (by omega) i
theorem wFor7_z {A0 A1 A2 A3 A4 A5 A6 : Type} {lo hi : Int} {a0 : A0} {a1 : A1} {a2 : A2} {a3 : A3} {a4 : A4} {a5 : A5} {a6 : A6} {step : A0 → A1 → A2 → A3 → A4 → A5 → A6 → Int → (A0 → A1 → A2 → A3 → A4 → A5 → A6 → Prop) → Prop} {k : A0 → A1 → A2 → A3 → A4 → A5 → A6 → Prop} (hl : lo ≤ hi) (I : Int → A0 → A1 → A2 → A3 → A4 → A5 → A6 → Prop) (h0 : I lo a0 a1 a2 a3 a4 a5 a6) (fin : ∀ a0 a1 a2 a3 a4 a5 a6, I hi a0 a1 a2 a3 a4 a5 a6 → k a0 a1 a2 a3 a4 a5 a6)
    (hs : ∀ (x : Int) a0 a1 a2 a3 a4 a5 a6 (C : A0 → A1 → A2 → A3 → A4 → A5 → A6 → Prop), lo ≤ x → x < hi → I x a0 a1 a2 a3 a4 a5 a6 → (∀ a0 a1 a2 a3 a4 a5 a6, I (x + 1) a0 a1 a2 a3 a4 a5 a6 → C a0 a1 a2 a3 a4 a5 a6) → step a0 a1 a2 a3 a4 a5 a6 x C) : wFor7 (irange lo hi) a0 a1 a2 a3 a4 a5 a6 step k :=
  wFor7_z' (fun x a0 a1 a2 a3 a4 a5 a6 => lo ≤ x ∧ I x a0 a1 a2 a3 a4 a5 a6) (fun a0 a1 a2 a3 a4 a5 a6 h => fin a0 a1 a2 a3 a4 a5 a6 h.2) (fun x a0 a1 a2 a3 a4 a5 a6 C h i c => hs x a0 a1 a2 a3 a4 a5 a6 C i.1 h i.2 fun a0 a1 a2 a3 a4 a5 a6 j => c a0 a1 a2 a3 a4 a5 a6 ⟨by have := i.1; omega, j⟩) _ lo a0 a1 a2 a3 a4 a5 a6 rfl hl ⟨Int.le_refl _, h0⟩
def wWhile7 {A0 A1 A2 A3 A4 A5 A6 : Type} (a0 : A0) (a1 : A1) (a2 : A2) (a3 : A3) (a4 : A4) (a5 : A5) (a6 : A6) (step : A0 → A1 → A2 → A3 → A4 → A5 → A6 → (A0 → A1 → A2 → A3 → A4 → A5 → A6 → Prop) → (A0 → A1 → A2 → A3 → A4 → A5 → A6 → Prop) → Prop) (k : A0 → A1 → A2 → A3 → A4 → A5 → A6 → Prop) : Prop := ∃ W : Nat → A0 → A1 → A2 → A3 → A4 → A5 → A6 → Prop, (∃ n, W n a0 a1 a2 a3 a4 a5 a6) ∧ ∀ n a0 a1 a2 a3 a4 a5 a6, W n a0 a1 a2 a3 a4 a5 a6 → step a0 a1 a2 a3 a4 a5 a6 (fun a0 a1 a2 a3 a4 a5 a6 => ∃ m, m < n ∧ W m a0 a1 a2 a3 a4 a5 a6) k
theorem q_while7 {A0 A1 A2 A3 A4 A5 A6 : Type} (E : A0 → A1 → A2 → A3 → A4 → A5 → A6 → En) {a0 : A0} {a1 : A1} {a2 : A2} {a3 : A3} {a4 : A4} {a5 : A5} {a6 : A6} {step : A0 → A1 → A2 → A3 → A4 → A5 → A6 → (A0 → A1 → A2 → A3 → A4 → A5 → A6 → Prop) → (A0 → A1 → A2 → A3 → A4 → A5 → A6 → Prop) → Prop} {k : A0 → A1 → A2 → A3 → A4 → A5 → A6 → Prop} (hG : G = E a0 a1 a2 a3 a4 a5 a6) (h : wWhile7 a0 a1 a2 a3 a4 a5 a6 step k)
    (hs : ∀ a0 a1 a2 a3 a4 a5 a6, ∀ (P X : A0 → A1 → A2 → A3 → A4 → A5 → A6 → Prop) (C D : En → Prop), step a0 a1 a2 a3 a4 a5 a6 P X → (∀ a0 a1 a2 a3 a4 a5 a6, P a0 a1 a2 a3 a4 a5 a6 → C (E a0 a1 a2 a3 a4 a5 a6)) → (∀ a0 a1 a2 a3 a4 a5 a6, X a0 a1 a2 a3 a4 a5 a6 → D (E a0 a1 a2 a3 a4 a5 a6)) → tc (E a0 a1 a2 a3 a4 a5 a6) fun G1 t => if t = true then tb ⟨C, Ds.rt⟩ G1 else D G1) (hk : ∀ a0 a1 a2 a3 a4 a5 a6, k a0 a1 a2 a3 a4 a5 a6 → u Ds (E a0 a1 a2 a3 a4 a5 a6)) : dSeq (dWhile tc tb) u Ds G := by
  obtain ⟨W, ⟨n, w0⟩, hw⟩ := h
  rw [hG]
  refine ⟨fun n G => ∃ a0 a1 a2 a3 a4 a5 a6, W n a0 a1 a2 a3 a4 a5 a6 ∧ G = E a0 a1 a2 a3 a4 a5 a6, ⟨n, _, _, _, _, _, _, _,  w0, rfl⟩, ?_⟩
  rintro n G ⟨a0, a1, a2, a3, a4, a5, a6,  w, e⟩
  rw [e]
  exact hs a0 a1 a2 a3 a4 a5 a6 _ _ (fun G2 => ∃ n', n' < n ∧ ∃ a0 a1 a2 a3 a4 a5 a6, W n' a0 a1 a2 a3 a4 a5 a6 ∧ G2 = E a0 a1 a2 a3 a4 a5 a6) (u Ds) (hw n a0 a1 a2 a3 a4 a5 a6 w) (fun a0 a1 a2 a3 a4 a5 a6 ⟨m, hm, w⟩ => ⟨m, hm, _, _, _, _, _, _, _,  w, rfl⟩) hk
def wJ7 {A0 A1 A2 A3 A4 A5 A6 : Type} (B : (A0 → A1 → A2 → A3 → A4 → A5 → A6 → Prop) → Prop) (k : A0 → A1 → A2 → A3 → A4 → A5 → A6 → Prop) : Prop := ∃ I : A0 → A1 → A2 → A3 → A4 → A5 → A6 → Prop, B I ∧ (∀ a0 a1 a2 a3 a4 a5 a6, I a0 a1 a2 a3 a4 a5 a6 → k a0 a1 a2 a3 a4 a5 a6)
theorem wJ7.mk {A0 A1 A2 A3 A4 A5 A6 : Type} {B : (A0 → A1 → A2 → A3 → A4 → A5 → A6 → Prop) → Prop} {k : A0 → A1 → A2 → A3 → A4 → A5 → A6 → Prop} (h : B k) : wJ7 B k := ⟨k, h, fun a0 a1 a2 a3 a4 a5 a6 h => h⟩
theorem q_cut7 {A0 A1 A2 A3 A4 A5 A6 : Type} (E : A0 → A1 → A2 → A3 → A4 → A5 → A6 → En) {B : (A0 → A1 → A2 → A3 → A4 → A5 → A6 → Prop) → Prop} {k : A0 → A1 → A2 → A3 → A4 → A5 → A6 → Prop} (h : wJ7 B k) (hA : ∀ I : A0 → A1 → A2 → A3 → A4 → A5 → A6 → Prop, B I → tb ⟨fun G => ∃ a0 a1 a2 a3 a4 a5 a6, I a0 a1 a2 a3 a4 a5 a6 ∧ G = E a0 a1 a2 a3 a4 a5 a6, Ds.rt⟩ G) (hk : ∀ a0 a1 a2 a3 a4 a5 a6, k a0 a1 a2 a3 a4 a5 a6 → u Ds (E a0 a1 a2 a3 a4 a5 a6)) : dSeq (dCut tb) u Ds G := by
  obtain ⟨I, hB, hI⟩ := h
  exact ⟨_, hA I hB, fun G ⟨a0, a1, a2, a3, a4, a5, a6,  h, e⟩ => by subst e; exact hk a0 a1 a2 a3 a4 a5 a6 (hI a0 a1 a2 a3 a4 a5 a6 h)⟩
def wFor8 {A0 A1 A2 A3 A4 A5 A6 A7 : Type} : List α → A0 → A1 → A2 → A3 → A4 → A5 → A6 → A7 → (A0 → A1 → A2 → A3 → A4 → A5 → A6 → A7 → α → (A0 → A1 → A2 → A3 → A4 → A5 → A6 → A7 → Prop) → Prop) → (A0 → A1 → A2 → A3 → A4 → A5 → A6 → A7 → Prop) → Prop
  | [], a0, a1, a2, a3, a4, a5, a6, a7, _, k => k a0 a1 a2 a3 a4 a5 a6 a7
  | x :: r, a0, a1, a2, a3, a4, a5, a6, a7, step, k => step a0 a1 a2 a3 a4 a5 a6 a7 x (fun a0 a1 a2 a3 a4 a5 a6 a7 => wFor8 r a0 a1 a2 a3 a4 a5 a6 a7 step k)
theorem sim_for8 {A0 A1 A2 A3 A4 A5 A6 A7 : Type} (e : α → D) (E : A0 → A1 → A2 → A3 → A4 → A5 → A6 → A7 → En) {step : A0 → A1 → A2 → A3 → A4 → A5 → A6 → A7 → α → (A0 → A1 → A2 → A3 → A4 → A5 → A6 → A7 → Prop) → Prop} {k : A0 → A1 → A2 → A3 → A4 → A5 → A6 → A7 → Prop}
    (hs : ∀ a0 a1 a2 a3 a4 a5 a6 a7, ∀ (x : α) (P : A0 → A1 → A2 → A3 → A4 → A5 → A6 → A7 → Prop) (C : En → Prop), step a0 a1 a2 a3 a4 a5 a6 a7 x P → (∀ a0 a1 a2 a3 a4 a5 a6 a7, P a0 a1 a2 a3 a4 a5 a6 a7 → C (E a0 a1 a2 a3 a4 a5 a6 a7)) → g (e x) (E a0 a1 a2 a3 a4 a5 a6 a7) fun G2 => tb ⟨C, Ds.rt⟩ G2) (hk : ∀ a0 a1 a2 a3 a4 a5 a6 a7, k a0 a1 a2 a3 a4 a5 a6 a7 → u Ds (E a0 a1 a2 a3 a4 a5 a6 a7)) : ∀ (xs : List α) a0 a1 a2 a3 a4 a5 a6 a7, wFor8 xs a0 a1 a2 a3 a4 a5 a6 a7 step k → forW g tb ⟨u Ds, Ds.rt⟩ (xs.map e) (E a0 a1 a2 a3 a4 a5 a6 a7)
  | [], a0, a1, a2, a3, a4, a5, a6, a7, h => hk _ _ _ _ _ _ _ _ h
  | x :: r, a0, a1, a2, a3, a4, a5, a6, a7, h => hs a0 a1 a2 a3 a4 a5 a6 a7 x _ _ h fun a0 a1 a2 a3 a4 a5 a6 a7 h => sim_for8 e E hs hk r a0 a1 a2 a3 a4 a5 a6 a7 h
theorem q_for8 {A0 A1 A2 A3 A4 A5 A6 A7 : Type} (e : α → D) (E : A0 → A1 → A2 → A3 → A4 → A5 → A6 → A7 → En) {xs : List α} {a0 : A0} {a1 : A1} {a2 : A2} {a3 : A3} {a4 : A4} {a5 : A5} {a6 : A6} {a7 : A7} {step : A0 → A1 → A2 → A3 → A4 → A5 → A6 → A7 → α → (A0 → A1 → A2 → A3 → A4 → A5 → A6 → A7 → Prop) → Prop} {k : A0 → A1 → A2 → A3 → A4 → A5 → A6 → A7 → Prop} (pi : SI ti G (xs.map e)) (hG : G = E a0 a1 a2 a3 a4 a5 a6 a7) (h : wFor8 xs a0 a1 a2 a3 a4 a5 a6 a7 step k)
    (hs : ∀ a0 a1 a2 a3 a4 a5 a6 a7, ∀ (x : α) (P : A0 → A1 → A2 → A3 → A4 → A5 → A6 → A7 → Prop) (C : En → Prop), step a0 a1 a2 a3 a4 a5 a6 a7 x P → (∀ a0 a1 a2 a3 a4 a5 a6 a7, P a0 a1 a2 a3 a4 a5 a6 a7 → C (E a0 a1 a2 a3 a4 a5 a6 a7)) → g (e x) (E a0 a1 a2 a3 a4 a5 a6 a7) fun G2 => tb ⟨C, Ds.rt⟩ G2) (hk : ∀ a0 a1 a2 a3 a4 a5 a6 a7, k a0 a1 a2 a3 a4 a5 a6 a7 → u Ds (E a0 a1 a2 a3 a4 a5 a6 a7)) : dSeq (dFor ti g tb) u Ds G := pi _ (by rw [hG]; exact sim_for8 e E hs hk xs a0 a1 a2 a3 a4 a5 a6 a7 h)
theorem wFor8_inv' {A0 A1 A2 A3 A4 A5 A6 A7 : Type} {step : A0 → A1 → A2 → A3 → A4 → A5 → A6 → A7 → α → (A0 → A1 → A2 → A3 → A4 → A5 → A6 → A7 → Prop) → Prop} {k : A0 → A1 → A2 → A3 → A4 → A5 → A6 → A7 → Prop} (I : List α → A0 → A1 → A2 → A3 → A4 → A5 → A6 → A7 → Prop) (xs : List α) (fin : ∀ a0 a1 a2 a3 a4 a5 a6 a7, I xs a0 a1 a2 a3 a4 a5 a6 a7 → k a0 a1 a2 a3 a4 a5 a6 a7)
    (hs : ∀ (pre : List α) (x : α) (post : List α) a0 a1 a2 a3 a4 a5 a6 a7 (C : A0 → A1 → A2 → A3 → A4 → A5 → A6 → A7 → Prop), xs = pre ++ x :: post → I pre a0 a1 a2 a3 a4 a5 a6 a7 → (∀ a0 a1 a2 a3 a4 a5 a6 a7, I (pre ++ [x]) a0 a1 a2 a3 a4 a5 a6 a7 → C a0 a1 a2 a3 a4 a5 a6 a7) → step a0 a1 a2 a3 a4 a5 a6 a7 x C) : ∀ (r pre : List α) a0 a1 a2 a3 a4 a5 a6 a7, xs = pre ++ r → I pre a0 a1 a2 a3 a4 a5 a6 a7 → wFor8 r a0 a1 a2 a3 a4 a5 a6 a7 step k
  | [], pre, a0, a1, a2, a3, a4, a5, a6, a7, e, h => fin a0 a1 a2 a3 a4 a5 a6 a7 (by rw [e, List.append_nil]; exact h)
  | x :: r, pre, a0, a1, a2, a3, a4, a5, a6, a7, e, h => hs pre x r a0 a1 a2 a3 a4 a5 a6 a7 _ e h fun a0 a1 a2 a3 a4 a5 a6 a7 h => wFor8_inv' I xs fin hs r (pre ++ [x]) a0 a1 a2 a3 a4 a5 a6 a7 (by rw [e]; simp) h
theorem wFor8_inv {A0 A1 A2 A3 A4 A5 A6 A7 : Type} {xs : List α} {a0 : A0} {a1 : A1} {a2 : A2} {a3 : A3} {a4 : A4} {a5 : A5} {a6 : A6} {a7 : A7} {step : A0 → A1 → A2 → A3 → A4 → A5 → A6 → A7 → α → (A0 → A1 → A2 → A3 → A4 → A5 → A6 → A7 → Prop) → Prop} {k : A0 → A1 → A2 → A3 → A4 → A5 → A6 → A7 → Prop} (I : List α → A0 → A1 → A2 → A3 → A4 → A5 → A6 → A7 → Prop) (h0 : I [] a0 a1 a2 a3 a4 a5 a6 a7) (fin : ∀ a0 a1 a2 a3 a4 a5 a6 a7, I xs a0 a1 a2 a3 a4 a5 a6 a7 → k a0 a1 a2 a3 a4 a5 a6 a7)
    (hs : ∀ (pre : List α) (x : α) (post : List α) a0 a1 a2 a3 a4 a5 a6 a7 (C : A0 → A1 → A2 → A3 → A4 → A5 → A6 → A7 → Prop), xs = pre ++ x :: post → I pre a0 a1 a2 a3 a4 a5 a6 a7 → (∀ a0 a1 a2 a3 a4 a5 a6 a7, I (pre ++ [x]) a0 a1 a2 a3 a4 a5 a6 a7 → C a0 a1 a2 a3 a4 a5 a6 a7) → step a0 a1 a2 a3 a4 a5 a6 a7 x C) : wFor8 xs a0 a1 a2 a3 a4 a5 a6 a7 step k := wFor8_inv' I xs fin hs xs [] a0 a1 a2 a3 a4 a5 a6 a7 rfl h0
theorem wFor8_z' {A0 A1 A2 A3 A4 A5 A6 A7 : Type} {step : A0 → A1 → A2 → A3 → A4 → A5 → A6 → A7 → Int → (A0 → A1 → A2 → A3 → A4 → A5 → A6 → A7 → Prop) → Prop} {k : A0 → A1 → A2 → A3 → A4 → A5 → A6 → A7 → Prop} {hi : Int} (I : Int → A0 → A1 → A2 → A3 → A4 → A5 → A6 → A7 → Prop) (fin : ∀ a0 a1 a2 a3 a4 a5 a6 a7, I hi a0 a1 a2 a3 a4 a5 a6 a7 → k a0 a1 a2 a3 a4 a5 a6 a7)
    (hs : ∀ (x : Int) a0 a1 a2 a3 a4 a5 a6 a7 (C : A0 → A1 → A2 → A3 → A4 → A5 → A6 → A7 → Prop), x < hi → I x a0 a1 a2 a3 a4 a5 a6 a7 → (∀ a0 a1 a2 a3 a4 a5 a6 a7, I (x + 1) a0 a1 a2 a3 a4 a5 a6 a7 → C a0 a1 a2 a3 a4 a5 a6 a7) → step a0 a1 a2 a3 a4 a5 a6 a7 x C) : ∀ (m : Nat) (lo : Int) a0 a1 a2 a3 a4 a5 a6 a7, (hi - lo).toNat = m → lo ≤ hi → I lo a0 a1 a2 a3 a4 a5 a6 a7 → wFor8 (irange lo hi) a0 a1 a2 a3 a4 a5 a6 a7 step k
  | 0, lo, a0, a1, a2, a3, a4, a5, a6, a7, e, h, i => by rw [irange_nil (by omega)]; exact fin a0 a1 a2 a3 a4 a5 a6 a7 (by rw [show hi = lo by omega]; exact i)
  | m + 1, lo, a0, a1, a2, a3, a4, a5, a6, a7, e, h, i => by rw [irange_cons (by omega)]; exact hs lo a0 a1 a2 a3 a4 a5 a6 a7 _ (by omega) i fun a0 a1 a2 a3 a4 a5 a6 a7 i => wFor8_z' I fin hs m (lo + 1) a0 a1 a2 a3 a4 a5 a6 a7 (by omega) (by omega) i
theorem wFor8_z {A0 A1 A2 A3 A4 A5 A6 A7 : Type} {lo hi : Int} {a0 : A0} {a1 : A1} {a2 : A2} {a3 : A3} {a4 : A4} {a5 : A5} {a6 : A6} {a7 : A7} {step : A0 → A1 → A2 → A3 → A4 → A5 → A6 → A7 → Int → (A0 → A1 → A2 → A3 → A4 → A5 → A6 → A7 → Prop) → Prop} {k : A0 → A1 → A2 → A3 → A4 → A5 → A6 → A7 → Prop} (hl : lo ≤ hi) (I : Int → A0 → A1 → A2 → A3 → A4 → A5 → A6 → A7 → Prop) (h0 : I lo a0 a1 a2 a3 a4 a5 a6 a7) (fin : ∀ a0 a1 a2 a3 a4 a5 a6 a7, I hi a0 a1 a2 a3 a4 a5 a6 a7 → k a0 a1 a2 a3 a4 a5 a6 a7)
    (hs : ∀ (x : Int) a0 a1 a2 a3 a4 a5 a6 a7 (C : A0 → A1 → A2 → A3 → A4 → A5 → A6 → A7 → Prop), lo ≤ x → x < hi → I x a0 a1 a2 a3 a4 a5 a6 a7 → (∀ a0 a1 a2 a3 a4 a5 a6 a7, I (x + 1) a0 a1 a2 a3 a4 a5 a6 a7 → C a0 a1 a2 a3 a4 a5 a6 a7) → step a0 a1 a2 a3 a4 a5 a6 a7 x C) : wFor8 (irange lo hi) a0 a1 a2 a3 a4 a5 a6 a7 step k :=
  wFor8_z' (fun x a0 a1 a2 a3 a4 a5 a6 a7 => lo ≤ x ∧ I x a0 a1 a2 a3 a4 a5 a6 a7) (fun a0 a1 a2 a3 a4 a5 a6 a7 h => fin a0 a1 a2 a3 a4 a5 a6 a7 h.2) (fun x a0 a1 a2 a3 a4 a5 a6 a7 C h i c => hs x a0 a1 a2 a3 a4 a5 a6 a7 C i.1 h i.2 fun a0 a1 a2 a3 a4 a5 a6 a7 j => c a0 a1 a2 a3 a4 a5 a6 a7 ⟨by have := i.1; omega, j⟩) _ lo a0 a1 a2 a3 a4 a5 a6 a7 rfl hl ⟨Int.le_refl _, h0⟩
def wWhile8 {A0 A1 A2 A3 A4 A5 A6 A7 : Type} (a0 : A0) (a1 : A1) (a2 : A2) (a3 : A3) (a4 : A4) (a5 : A5) (a6 : A6) (a7 : A7) (step : A0 → A1 → A2 → A3 → A4 → A5 → A6 → A7 → (A0 → A1 → A2 → A3 → A4 → A5 → A6 → A7 → Prop) → (A0 → A1 → A2 → A3 → A4 → A5 → A6 → A7 → Prop) → Prop) (k : A0 → A1 → A2 → A3 → A4 → A5 → A6 → A7 → Prop) : Prop := ∃ W : Nat → A0 → A1 → A2 → A3 → A4 → A5 → A6 → A7 → Prop, (∃ n, W n a0 a1 a2 a3 a4 a5 a6 a7) ∧ ∀ n a0 a1 a2 a3 a4 a5 a6 a7, W n a0 a1 a2 a3 a4 a5 a6 a7 → step a0 a1 a2 a3 a4 a5 a6 a7 (fun a0 a1 a2 a3 a4 a5 a6 a7 => ∃ m, m < n ∧ W m a0 a1 a2 a3 a4 a5 a6 a7) k
theorem q_while8 {A0 A1 A2 A3 A4 A5 A6 A7 : Type} (E : A0 → A1 → A2 → A3 → A4 → A5 → A6 → A7 → En) {a0 : A0} {a1 : A1} {a2 : A2} {a3 : A3} {a4 : A4} {a5 : A5} {a6 : A6} {a7 : A7} {step : A0 → A1 → A2 → A3 → A4 → A5 → A6 → A7 → (A0 → A1 → A2 → A3 → A4 → A5 → A6 → A7 → Prop) → (A0 → A1 → A2 → A3 → A4 → A5 → A6 → A7 → Prop) → Prop} {k : A0 → A1 → A2 → A3 → A4 → A5 → A6 → A7 → Prop} (hG : G = E a0 a1 a2 a3 a4 a5 a6 a7) (h : wWhile8 a0 a1 a2 a3 a4 a5 a6 a7 step k)
    (hs : ∀ a0 a1 a2 a3 a4 a5 a6 a7, ∀ (P X : A0 → A1 → A2 → A3 → A4 → A5 → A6 → A7 → Prop) (C D : En → Prop), step a0 a1 a2 a3 a4 a5 a6 a7 P X → (∀ a0 a1 a2 a3 a4 a5 a6 a7, P a0 a1 a2 a3 a4 a5 a6 a7 → C (E a0 a1 a2 a3 a4 a5 a6 a7)) → (∀ a0 a1 a2 a3 a4 a5 a6 a7, X a0 a1 a2 a3 a4 a5 a6 a7 → D (E a0 a1 a2 a3 a4 a5 a6 a7)) → tc (E a0 a1 a2 a3 a4 a5 a6 a7) fun G1 t => if t = true then tb ⟨C, Ds.rt⟩ G1 else D G1) (hk : ∀ a0 a1 a2 a3 a4 a5 a6 a7, k a0 a1 a2 a3 a4 a5 a6 a7 → u Ds (E a0 a1 a2 a3 a4 a5 a6 a7)) : dSeq (dWhile tc tb) u Ds G := by
  obtain ⟨W, ⟨n, w0⟩, hw⟩ := h
  rw [hG]
  refine ⟨fun n G => ∃ a0 a1 a2 a3 a4 a5 a6 a7, W n a0 a1 a2 a3 a4 a5 a6 a7 ∧ G = E a0 a1 a2 a3 a4 a5 a6 a7, ⟨n, _, _, _, _, _, _, _, _,  w0, rfl⟩, ?_⟩
  rintro n G ⟨a0, a1, a2, a3, a4, a5, a6, a7,  w, e⟩
  rw [e]
  exact hs a0 a1 a2 a3 a4 a5 a6 a7 _ _ (fun G2 => ∃ n', n' < n ∧ ∃ a0 a1 a2 a3 a4 a5 a6 a7, W n' a0 a1 a2 a3 a4 a5 a6 a7 ∧ G2 = E a0 a1 a2 a3 a4 a5 a6 a7) (u Ds) (hw n a0 a1 a2 a3 a4 a5 a6 a7 w) (fun a0 a1 a2 a3 a4 a5 a6 a7 ⟨m, hm, w⟩ => ⟨m, hm, _, _, _, _, _, _, _, _,  w, rfl⟩) hk
def wJ8 {A0 A1 A2 A3 A4 A5 A6 A7 : Type} (B : (A0 → A1 → A2 → A3 → A4 → A5 → A6 → A7 → Prop) → Prop) (k : A0 → A1 → A2 → A3 → A4 → A5 → A6 → A7 → Prop) : Prop := ∃ I : A0 → A1 → A2 → A3 → A4 → A5 → A6 → A7 → Prop, B I ∧ (∀ a0 a1 a2 a3 a4 a5 a6 a7, I a0 a1 a2 a3 a4 a5 a6 a7 → k a0 a1 a2 a3 a4 a5 a6 a7)
theorem wJ8.mk {A0 A1 A2 A3 A4 A5 A6 A7 : Type} {B : (A0 → A1 → A2 → A3 → A4 → A5 → A6 → A7 → Prop) → Prop} {k : A0 → A1 → A2 → A3 → A4 → A5 → A6 → A7 → Prop} (h : B k) : wJ8 B k := ⟨k, h, fun a0 a1 a2 a3 a4 a5 a6 a7 h => h⟩
theorem q_cut8 {A0 A1 A2 A3 A4 A5 A6 A7 : Type} (E : A0 → A1 → A2 → A3 → A4 → A5 → A6 → A7 → En) {B : (A0 → A1 → A2 → A3 → A4 → A5 → A6 → A7 → Prop) → Prop} {k : A0 → A1 → A2 → A3 → A4 → A5 → A6 → A7 → Prop} (h : wJ8 B k) (hA : ∀ I : A0 → A1 → A2 → A3 → A4 → A5 → A6 → A7 → Prop, B I → tb ⟨fun G => ∃ a0 a1 a2 a3 a4 a5 a6 a7, I a0 a1 a2 a3 a4 a5 a6 a7 ∧ G = E a0 a1 a2 a3 a4 a5 a6 a7, Ds.rt⟩ G) (hk : ∀ a0 a1 a2 a3 a4 a5 a6 a7, k a0 a1 a2 a3 a4 a5 a6 a7 → u Ds (E a0 a1 a2 a3 a4 a5 a6 a7)) : dSeq (dCut tb) u Ds G := by
  obtain ⟨I, hB, hI⟩ := h
  exact ⟨_, hA I hB, fun G ⟨a0, a1, a2, a3, a4, a5, a6, a7,  h, e⟩ => by subst e; exact hk a0 a1 a2 a3 a4 a5 a6 a7 (hI a0 a1 a2 a3 a4 a5 a6 a7 h)⟩
def wFor9 {A0 A1 A2 A3 A4 A5 A6 A7 A8 : Type} : List α → A0 → A1 → A2 → A3 → A4 → A5 → A6 → A7 → A8 → (A0 → A1 → A2 → A3 → A4 → A5 → A6 → A7 → A8 → α → (A0 → A1 → A2 → A3 → A4 → A5 → A6 → A7 → A8 → Prop) → Prop) → (A0 → A1 → A2 → A3 → A4 → A5 → A6 → A7 → A8 → Prop) → Prop
  | [], a0, a1, a2, a3, a4, a5, a6, a7, a8, _, k => k a0 a1 a2 a3 a4 a5 a6 a7 a8
  | x :: r, a0, a1, a2, a3, a4, a5, a6, a7, a8, step, k => step a0 a1 a2 a3 a4 a5 a6 a7 a8 x (fun a0 a1 a2 a3 a4 a5 a6 a7 a8 => wFor9 r a0 a1 a2 a3 a4 a5 a6 a7 a8 step k)
theorem sim_for9 {A0 A1 A2 A3 A4 A5 A6 A7 A8 : Type} (e : α → D) (E : A0 → A1 → A2 → A3 → A4 → A5 → A6 → A7 → A8 → En) {step : A0 → A1 → A2 → A3 → A4 → A5 → A6 → A7 → A8 → α → (A0 → A1 → A2 → A3 → A4 → A5 → A6 → A7 → A8 → Prop) → Prop} {k : A0 → A1 → A2 → A3 → A4 → A5 → A6 → A7 → A8 → Prop}
    (hs : ∀ a0 a1 a2 a3 a4 a5 a6 a7 a8, ∀ (x : α) (P : A0 → A1 → A2 → A3 → A4 → A5 → A6 → A7 → A8 → Prop) (C : En → Prop), step a0 a1 a2 a3 a4 a5 a6 a7 a8 x P → (∀ a0 a1 a2 a3 a4 a5 a6 a7 a8, P a0 a1 a2 a3 a4 a5 a6 a7 a8 → C (E a0 a1 a2 a3 a4 a5 a6 a7 a8)) → g (e x) (E a0 a1 a2 a3 a4 a5 a6 a7 a8) fun G2 => tb ⟨C, Ds.rt⟩ G2) (hk : ∀ a0 a1 a2 a3 a4 a5 a6 a7 a8, k a0 a1 a2 a3 a4 a5 a6 a7 a8 → u Ds (E a0 a1 a2 a3 a4 a5 a6 a7 a8)) : ∀ (xs : List α) a0 a1 a2 a3 a4 a5 a6 a7 a8, wFor9 xs a0 a1 a2 a3 a4 a5 a6 a7 a8 step k → forW g tb ⟨u Ds, Ds.rt⟩ (xs.map e) (E a0 a1 a2 a3 a4 a5 a6 a7 a8)
  | [], a0, a1, a2, a3, a4, a5, a6, a7, a8, h => hk _ _ _ _ _ _ _ _ _ h
  | x :: r, a0, a1, a2, a3, a4, a5, a6, a7, a8, h => hs a0 a1 a2 a3 a4 a5 a6 a7 a8 x _ _ h fun a0 a1 a2 a3 a4 a5 a6 a7 a8 h => sim_for9 e E hs hk r a0 a1 a2 a3 a4 a5 a6 a7 a8 h
theorem q_for9 {A0 A1 A2 A3 A4 A5 A6 A7 A8 : Type} (e : α → D) (E : A0 → A1 → A2 → A3 → A4 → A5 → A6 → A7 → A8 → En) {xs : List α} {a0 : A0} {a1 : A1} {a2 : A2} {a3 : A3} {a4 : A4} {a5 : A5} {a6 : A6} {a7 : A7} {a8 : A8} {step : A0 → A1 → A2 → A3 → A4 → A5 → A6 → A7 → A8 → α → (A0 → A1 → A2 → A3 → A4 → A5 → A6 → A7 → A8 → Prop) → Prop} {k : A0 → A1 → A2 → A3 → A4 → A5 → A6 → A7 → A8 → Prop} (pi : SI ti G (xs.map e)) (hG : G = E a0 a1 a2 a3 a4 a5 a6 a7 a8) (h : wFor9 xs a0 a1 a2 a3 a4 a5 a6 a7 a8 step k)
    (hs : ∀ a0 a1 a2 a3 a4 a5 a6 a7 a8, ∀ (x : α) (P : A0 → A1 → A2 → A3 → A4 → A5 → A6 → A7 → A8 → Prop) (C : En → Prop), step a0 a1 a2 a3 a4 a5 a6 a7 a8 x P → (∀ a0 a1 a2 a3 a4 a5 a6 a7 a8, P a0 a1 a2 a3 a4 a5 a6 a7 a8 → C (E a0 a1 a2 a3 a4 a5 a6 a7 a8)) → g (e x) (E a0 a1 a2 a3 a4 a5 a6 a7 a8) fun G2 => tb ⟨C, Ds.rt⟩ G2) (hk : ∀ a0 a1 a2 a3 a4 a5 a6 a7 a8, k a0 a1 a2 a3 a4 a5 a6 a7 a8 → u Ds (E a0 a1 a2 a3 a4 a5 a6 a7 a8)) : dSeq (dFor ti g tb) u Ds G := pi _ (by rw [hG]; exact sim_for9 e E hs hk xs a0 a1 a2 a3 a4 a5 a6 a7 a8 h)
theorem wFor9_inv' {A0 A1 A2 A3 A4 A5 A6 A7 A8 : Type} {step : A0 → A1 → A2 → A3 → A4 → A5 → A6 → A7 → A8 → α → (A0 → A1 → A2 → A3 → A4 → A5 → A6 → A7 → A8 → Prop) → Prop} {k : A0 → A1 → A2 → A3 → A4 → A5 → A6 → A7 → A8 → Prop} (I : List α → A0 → A1 → A2 → A3 → A4 → A5 → A6 → A7 → A8 → Prop) (xs : List α) (fin : ∀ a0 a1 a2 a3 a4 a5 a6 a7 a8, I xs a0 a1 a2 a3 a4 a5 a6 a7 a8 → k a0 a1 a2 a3 a4 a5 a6 a7 a8)
    (hs : ∀ (pre : List α) (x : α) (post : List α) a0 a1 a2 a3 a4 a5 a6 a7 a8 (C : A0 → A1 → A2 → A3 → A4 → A5 → A6 → A7 → A8 → Prop), xs = pre ++ x :: post → I pre a0 a1 a2 a3 a4 a5 a6 a7 a8 → (∀ a0 a1 a2 a3 a4 a5 a6 a7 a8, I (pre ++ [x]) a0 a1 a2 a3 a4 a5 a6 a7 a8 → C a0 a1 a2 a3 a4 a5 a6 a7 a8) → step a0 a1 a2 a3 a4 a5 a6 a7 a8 x C) : ∀ (r pre : List α) a0 a1 a2 a3 a4 a5 a6 a7 a8, xs = pre ++ r → I pre a0 a1 a2 a3 a4 a5 a6 a7 a8 → wFor9 r a0 a1 a2 a3 a4 a5 a6 a7 a8 step k
  | [], pre, a0, a1, a2, a3, a4, a5, a6, a7, a8, e, h => fin a0 a1 a2 a3 a4 a5 a6 a7 a8 (by rw [e, List.append_nil]; exact h)
  | x :: r, pre, a0, a1, a2, a3, a4, a5, a6, a7, a8, e, h => hs pre x r a0 a1 a2 a3 a4 a5 a6 a7 a8 _ e h fun a0 a1 a2 a3 a4 a5 a6 a7 a8 h => wFor9_inv' I xs fin hs r (pre ++ [x]) a0 a1 a2 a3 a4 a5 a6 a7 a8 (by rw [e]; simp) h
theorem wFor9_inv {A0 A1 A2 A3 A4 A5 A6 A7 A8 : Type} {xs : List α} {a0 : A0} {a1 : A1} {a2 : A2} {a3 : A3} {a4 : A4} {a5 : A5} {a6 : A6} {a7 : A7} {a8 : A8} {step : A0 → A1 → A2 → A3 → A4 → A5 → A6 → A7 → A8 → α → (A0 → A1 → A2 → A3 → A4 → A5 → A6 → A7 → A8 → Prop) → Prop} {k : A0 → A1 → A2 → A3 → A4 → A5 → A6 → A7 → A8 → Prop} (I : List α → A0 → A1 → A2 → A3 → A4 → A5 → A6 → A7 → A8 → Prop) (h0 : I [] a0 a1 a2 a3 a4 a5 a6 a7 a8) (fin : ∀ a0 a1 a2 a3 a4 a5 a6 a7 a8, I xs a0 a1 a2 a3 a4 a5 a6 a7 a8 → k a0 a1 a2 a3 a4 a5 a6 a7 a8)
    (hs : ∀ (pre : List α) (x : α) (post : List α) a0 a1 a2 a3 a4 a5 a6 a7 a8 (C : A0 → A1 → A2 → A3 → A4 → A5 → A6 → A7 → A8 → Prop), xs = pre ++ x :: post → I pre a0 a1 a2 a3 a4 a5 a6 a7 a8 → (∀ a0 a1 a2 a3 a4 a5 a6 a7 a8, I (pre ++ [x]) a0 a1 a2 a3 a4 a5 a6 a7 a8 → C a0 a1 a2 a3 a4 a5 a6 a7 a8) → step a0 a1 a2 a3 a4 a5 a6 a7 a8 x C) : wFor9 xs a0 a1 a2 a3 a4 a5 a6 a7 a8 step k := wFor9_inv' I xs fin hs xs [] a0 a1 a2 a3 a4 a5 a6 a7 a8 rfl h0
theorem wFor9_z' {A0 A1 A2 A3 A4 A5 A6 A7 A8 : Type} {step : A0 → A1 → A2 → A3 → A4 → A5 → A6 → A7 → A8 → Int → (A0 → A1 → A2 → A3 → A4 → A5 → A6 → A7 → A8 → Prop) → Prop} {k : A0 → A1 → A2 → A3 → A4 → A5 → A6 → A7 → A8 → Prop} {hi : Int} (I : Int → A0 → A1 → A2 → A3 → A4 → A5 → A6 → A7 → A8 → Prop) (fin : ∀ a0 a1 a2 a3 a4 a5 a6 a7 a8, I hi a0 a1 a2 a3 a4 a5 a6 a7 a8 → k a0 a1 a2 a3 a4 a5 a6 a7 a8)
    (hs : ∀ (x : Int) a0 a1 a2 a3 a4 a5 a6 a7 a8 (C : A0 → A1 → A2 → A3 → A4 → A5 → A6 → A7 → A8 → Prop), x < hi → I x a0 a1 a2 a3 a4 a5 a6 a7 a8 → (∀ a0 a1 a2 a3 a4 a5 a6 a7 a8, I (x + 1) a0 a1 a2 a3 a4 a5 a6 a7 a8 → C a0 a1 a2 a3 a4 a5 a6 a7 a8) → step a0 a1 a2 a3 a4 a5 a6 a7 a8 x C) : ∀ (m : Nat) (lo : Int) a0 a1 a2 a3 a4 a5 a6 a7 a8, (hi - lo).toNat = m → lo ≤ hi → I lo a0 a1 a2 a3 a4 a5 a6 a7 a8 → wFor9 (irange lo hi) a0 a1 a2 a3 a4 a5 a6 a7 a8 step k
  | 0, lo, a0, a1, a2, a3, a4, a5, a6, a7, a8, e, h, i => by rw [irange_nil (by omega)]; exact fin a0 a1 a2 a3 a4 a5 a6 a7 a8 (by rw [show hi = lo by omega]; exact i)
  | m + 1, lo, a0, a1, a2, a3, a4, a5, a6, a7, a8, e, h, i => by rw [irange_cons (by omega)]; exact hs lo a0 a1 a2 a3 a4 a5 a6 a7 a8 _ (by omega) i fun a0 a1 a2 a3 a4 a5 a6 a7 a8 i => wFor9_z' I fin hs m (lo + 1) a0 a1 a2 a3 a4 a5 a6 a7 a8 (by omega) (by omega) i
theorem wFor9_z {A0 A1 A2 A3 A4 A5 A6 A7 A8 : Type} {lo hi : Int} {a0 : A0} {a1 : A1} {a2 : A2} {a3 : A3} {a4 : A4} {a5 : A5} {a6 : A6} {a7 : A7} {a8 : A8} {step : A0 → A1 → A2 → A3 → A4 → A5 → A6 → A7 → A8 → Int → (A0 → A1 → A2 → A3 → A4 → A5 → A6 → A7 → A8 → Prop) → Prop} {k : A0 → A1 → A2 → A3 → A4 → A5 → A6 → A7 → A8 → Prop} (hl : lo ≤ hi) (I : Int → A0 → A1 → A2 → A3 → A4 → A5 → A6 → A7 → A8 → Prop) (h0 : I lo a0 a1 a2 a3 a4 a5 a6 a7 a8) (fin : ∀ a0 a1 a2 a3 a4 a5 a6 a7 a8, I hi a0 a1 a2 a3 a4 a5 a6 a7 a8 → k a0 a1 a2 a3 a4 a5 a6 a7 a8)
    (hs : ∀ (x : Int) a0 a1 a2 a3 a4 a5 a6 a7 a8 (C : A0 → A1 → A2 → A3 → A4 → A5 → A6 → A7 → A8 → Prop), lo ≤ x → x < hi → I x a0 a1 a2 a3 a4 a5 a6 a7 a8 → (∀ a0 a1 a2 a3 a4 a5 a6 a7 a8, I (x + 1) a0 a1 a2 a3 a4 a5 a6 a7 a8 → C a0 a1 a2 a3 a4 a5 a6 a7 a8) → step a0 a1 a2 a3 a4 a5 a6 a7 a8 x C) : wFor9 (irange lo hi) a0 a1 a2 a3 a4 a5 a6 a7 a8 step k :=
  wFor9_z' (fun x a0 a1 a2 a3 a4 a5 a6 a7 a8 => lo ≤ x ∧ I x a0 a1 a2 a3 a4 a5 a6 a7 a8) (fun a0 a1 a2 a3 a4 a5 a6 a7 a8 h => fin a0 a1 a2 a3 a4 a5 a6 a7 a8 h.2) (fun x a0 a1 a2 a3 a4 a5 a6 a7 a8 C h i c => hs x a0 a1 a2 a3 a4 a5 a6 a7 a8 C i.1 h i.2 fun a0 a1 a2 a3 a4 a5 a6 a7 a8 j => c a0 a1 a2 a3 a4 a5 a6 a7 a8 ⟨by have := i.1; omega, j⟩) _ lo a0 a1 a2 a3 a4 a5 a6 a7 a8 rfl hl ⟨Int.le_refl _, h0⟩
def wWhile9 {A0 A1 A2 A3 A4 A5 A6 A7 A8 : Type} (a0 : A0) (a1 : A1) (a2 : A2) (a3 : A3) (a4 : A4) (a5 : A5) (a6 : A6) (a7 : A7) (a8 : A8) (step : A0 → A1 → A2 → A3 → A4 → A5 → A6 → A7 → A8 → (A0 → A1 → A2 → A3 → A4 → A5 → A6 → A7 → A8 → Prop) → (A0 → A1 → A2 → A3 → A4 → A5 → A6 → A7 → A8 → Prop) → Prop) (k : A0 → A1 → A2 → A3 → A4 → A5 → A6 → A7 → A8 → Prop) : Prop := ∃ W : Nat → A0 → A1 → A2 → A3 → A4 → A5 → A6 → A7 → A8 → Prop, (∃ n, W n a0 a1 a2 a3 a4 a5 a6 a7 a8) ∧ ∀ n a0 a1 a2 a3 a4 a5 a6 a7 a8, W n a0 a1 a2 a3 a4 a5 a6 a7 a8 → step a0 a1 a2 a3 a4 a5 a6 a7 a8 (fun a0 a1 a2 a3 a4 a5 a6 a7 a8 => ∃ m, m < n ∧ W m a0 a1 a2 a3 a4 a5 a6 a7 a8) k
theorem q_while9 {A0 A1 A2 A3 A4 A5 A6 A7 A8 : Type} (E : A0 → A1 → A2 → A3 → A4 → A5 → A6 → A7 → A8 → En) {a0 : A0} {a1 : A1} {a2 : A2} {a3 : A3} {a4 : A4} {a5 : A5} {a6 : A6} {a7 : A7} {a8 : A8} {step : A0 → A1 → A2 → A3 → A4 → A5 → A6 → A7 → A8 → (A0 → A1 → A2 → A3 → A4 → A5 → A6 → A7 → A8 → Prop) → (A0 → A1 → A2 → A3 → A4 → A5 → A6 → A7 → A8 → Prop) → Prop} {k : A0 → A1 → A2 → A3 → A4 → A5 → A6 → A7 → A8 → Prop} (hG : G = E a0 a1 a2 a3 a4 a5 a6 a7 a8) (h : wWhile9 a0 a1 a2 a3 a4 a5 a6 a7 a8 step k)
    (hs : ∀ a0 a1 a2 a3 a4 a5 a6 a7 a8, ∀ (P X : A0 → A1 → A2 → A3 → A4 → A5 → A6 → A7 → A8 → Prop) (C D : En → Prop), step a0 a1 a2 a3 a4 a5 a6 a7 a8 P X → (∀ a0 a1 a2 a3 a4 a5 a6 a7 a8, P a0 a1 a2 a3 a4 a5 a6 a7 a8 → C (E a0 a1 a2 a3 a4 a5 a6 a7 a8)) → (∀ a0 a1 a2 a3 a4 a5 a6 a7 a8, X a0 a1 a2 a3 a4 a5 a6 a7 a8 → D (E a0 a1 a2 a3 a4 a5 a6 a7 a8)) → tc (E a0 a1 a2 a3 a4 a5 a6 a7 a8) fun G1 t => if t = true then tb ⟨C, Ds.rt⟩ G1 else D G1) (hk : ∀ a0 a1 a2 a3 a4 a5 a6 a7 a8, k a0 a1 a2 a3 a4 a5 a6 a7 a8 → u Ds (E a0 a1 a2 a3 a4 a5 a6 a7 a8)) : dSeq (dWhile tc tb) u Ds G := by
  obtain ⟨W, ⟨n, w0⟩, hw⟩ := h
  rw [hG]
  refine ⟨fun n G => ∃ a0 a1 a2 a3 a4 a5 a6 a7 a8, W n a0 a1 a2 a3 a4 a5 a6 a7 a8 ∧ G = E a0 a1 a2 a3 a4 a5 a6 a7 a8, ⟨n, _, _, _, _, _, _, _, _, _,  w0, rfl⟩, ?_⟩
  rintro n G ⟨a0, a1, a2, a3, a4, a5, a6, a7, a8,  w, e⟩
  rw [e]
  exact hs a0 a1 a2 a3 a4 a5 a6 a7 a8 _ _ (fun G2 => ∃ n', n' < n ∧ ∃ a0 a1 a2 a3 a4 a5 a6 a7 a8, W n' a0 a1 a2 a3 a4 a5 a6 a7 a8 ∧ G2 = E a0 a1 a2 a3 a4 a5 a6 a7 a8) (u Ds) (hw n a0 a1 a2 a3 a4 a5 a6 a7 a8 w) (fun a0 a1 a2 a3 a4 a5 a6 a7 a8 ⟨m, hm, w⟩ => ⟨m, hm, _, _, _, _, _, _, _, _, _,  w, rfl⟩) hk
def wJ9 {A0 A1 A2 A3 A4 A5 A6 A7 A8 : Type} (B : (A0 → A1 → A2 → A3 → A4 → A5 → A6 → A7 → A8 → Prop) → Prop) (k : A0 → A1 → A2 → A3 → A4 → A5 → A6 → A7 → A8 → Prop) : Prop := ∃ I : A0 → A1 → A2 → A3 → A4 → A5 → A6 → A7 → A8 → Prop, B I ∧ (∀ a0 a1 a2 a3 a4 a5 a6 a7 a8, I a0 a1 a2 a3 a4 a5 a6 a7 a8 → k a0 a1 a2 a3 a4 a5 a6 a7 a8)
theorem wJ9.mk {A0 A1 A2 A3 A4 A5 A6 A7 A8 : Type} {B : (A0 → A1 → A2 → A3 → A4 → A5 → A6 → A7 → A8 → Prop) → Prop} {k : A0 → A1 → A2 → A3 → A4 → A5 → A6 → A7 → A8 → Prop} (h : B k) : wJ9 B k := ⟨k, h, fun a0 a1 a2 a3 a4 a5 a6 a7 a8 h => h⟩
theorem q_cut9 {A0 A1 A2 A3 A4 A5 A6 A7 A8 : Type} (E : A0 → A1 → A2 → A3 → A4 → A5 → A6 → A7 → A8 → En) {B : (A0 → A1 → A2 → A3 → A4 → A5 → A6 → A7 → A8 → Prop) → Prop} {k : A0 → A1 → A2 → A3 → A4 → A5 → A6 → A7 → A8 → Prop} (h : wJ9 B k) (hA : ∀ I : A0 → A1 → A2 → A3 → A4 → A5 → A6 → A7 → A8 → Prop, B I → tb ⟨fun G => ∃ a0 a1 a2 a3 a4 a5 a6 a7 a8, I a0 a1 a2 a3 a4 a5 a6 a7 a8 ∧ G = E a0 a1 a2 a3 a4 a5 a6 a7 a8, Ds.rt⟩ G) (hk : ∀ a0 a1 a2 a3 a4 a5 a6 a7 a8, k a0 a1 a2 a3 a4 a5 a6 a7 a8 → u Ds (E a0 a1 a2 a3 a4 a5 a6 a7 a8)) : dSeq (dCut tb) u Ds G := by
  obtain ⟨I, hB, hI⟩ := h
  exact ⟨_, hA I hB, fun G ⟨a0, a1, a2, a3, a4, a5, a6, a7, a8,  h, e⟩ => by subst e; exact hk a0 a1 a2 a3 a4 a5 a6 a7 a8 (hI a0 a1 a2 a3 a4 a5 a6 a7 a8 h)⟩
end
end DL

/-! Steps of the proofs that tgen.py prints. -/
namespace DL
open PySem PySem.Spec L2
theorem bnd.get {α : Type} {e : α} {k : α → Prop} (h : bnd e k) : ∃ x, x = e ∧ k x := ⟨e, rfl, h e rfl⟩
theorem lt_l {i n : Nat} (h : Nat.ble (i + 1) n = true) : i < n := Nat.le_of_ble_eq_true h
section
variable {G G' G2 : En} {te ta tb tc : DTE} {tt tu : DTT} {tas : DTA} {v va vb : Vl} {d x y d1 d2 : D} {t : T} {a b c : Bool} {i j n : Nat} {as : List AV} {ds : List D} {Ds : DEnds} {u : DTS} {Q : En → Vl → Prop} {QA : En → List AV → Prop} {QT : En → Bool → Prop}
theorem q_nextS {rt : En → Vl → Prop} (h : u Ds G) : dNext ⟨u Ds, rt⟩ G := h
theorem q_env {s : DTS} (e : G = G2) (h : s Ds G2) : s Ds G := by rw [e]; exact h
def CS (i : Nat) (k : En → Prop) : En → Vl → Prop := fun G1 v => setW G1 v i k
theorem q_set (h : te G (CS i (u Ds))) : dSeq (dSet i te) u Ds G := h
theorem w_set {k : En → Prop} (hi : i < G.length) (e : G.set i (some t) = G') (h : k G') : CS i k G (.t t) := ⟨hi, by rw [e]; exact h⟩
theorem p_setB {α : Type} (f : α → T) {G' : α → En} {e : α} {k : α → Prop} (h : bnd e k) (p : SP te G (.t (f e))) (hi : i < G.length) (hG : ∀ x, G.set i (some (f x)) = G' x) (q : ∀ x, k x → u Ds (G' x)) : dSeq (dSet i te) u Ds G :=
  p_set p hi (hG e) (q e (h e rfl))
def CE (k : En → Prop) : En → Vl → Prop := fun G _ => k G
theorem q_expr (h : te G (CE (u Ds))) : dSeq (dExpr te) u Ds G := h
theorem w_expr {k : En → Prop} (h : k G) : CE k G v := h
theorem p_par (p : SA tas G [.d d1, .d d2]) (hi : i < G.length) (hj : j < G.length) (e : (G.set i (some (.fz d1))).set j (some (.fz d2)) = G') (h : u Ds G') : dSeq (dPar i j tas) u Ds G := p _ ⟨hi, hj, by rw [e]; exact h⟩
def CP (i j : Nat) (k : En → Prop) : En → List AV → Prop := fun G1 as => match as with | [.d d1, .d d2] => i < G1.length ∧ j < G1.length ∧ k ((G1.set i (some (.fz d1))).set j (some (.fz d2))) | _ => False
theorem q_par (h : tas G (CP i j (u Ds))) : dSeq (dPar i j tas) u Ds G := h
theorem w_par {k : En → Prop} (hi : i < G.length) (hj : j < G.length) (e : (G.set i (some (.fz d1))).set j (some (.fz d2)) = G') (h : k G') : CP i j k G [.d d1, .d d2] := ⟨hi, hj, by rw [e]; exact h⟩
theorem p_asg {g : DTG} (p : SP te G v) (f : FZ G v d) (sg : SG g d G G') (h : u Ds G') : dSeq (dAsg te g) u Ds G := p _ (f.w (sg _ h))
theorem p_asgB {α : Type} {g : DTG} (f : α → D) {G' : α → En} {e : α} {k : α → Prop} (h : bnd e k) (p : SP te G v) (fz : FZ G v (f e)) (sg : ∀ x, SG g (f x) G (G' x)) (q : ∀ x, k x → u Ds (G' x)) : dSeq (dAsg te g) u Ds G :=
  p_asg p fz (sg e) (q e (h e rfl))
def CG (g : DTG) (k : En → Prop) : En → Vl → Prop := fun G1 v => fzW G1 v fun G2 d => g d G2 k
theorem q_asg {g : DTG} (h : te G (CG g (u Ds))) : dSeq (dAsg te g) u Ds G := h
theorem w_asg {g : DTG} {k : En → Prop} (f : FZ G v d) (sg : SG g d G G') (h : k G') : CG g k G v := f.w (sg _ h)
def CM (i : Nat) (k : NT) (Q : En → Vl → Prop) : En → List AV → Prop := fun G2 as => withD as fun ds => (match atE G2 i none with | some t => k t ds fun t' r => Q (setE G2 i none t') (.t r) | none => False)
theorem q_meth {ty : String} {k : NT} {pa : Bool} (h : G[i]? = some (some t)) (hn : (match t with | .fz _ => False | _ => True)) (ht : t.ty = ty) (q : tas G (CM i k Q)) : dMeth ty k pa (dVar i) tas G Q := by
  refine (sp_var h hn) _ ?_
  have ea : atE G i none = some t := by unfold atE; rw [h]
  refine ⟨⟨_, ea, ht⟩, ?_⟩
  have : (fun (G2 : En) (as : List AV) => ((none : Option Stp) = none ∨ pa = true) ∧ withD as fun ds => (match atE G2 i none with | some t => k t ds fun t' r => Q (setE G2 i none t') (.t r) | none => False)) = CM i k Q := by
    funext G2 as
    exact propext ⟨fun z => z.2, fun z => ⟨.inl rfl, z⟩⟩
  show tas G (fun (G2 : En) (as : List AV) => ((none : Option Stp) = none ∨ pa = true) ∧ withD as fun ds => (match atE G2 i none with | some t => k t ds fun t' r => Q (setE G2 i none t') (.t r) | none => False))
  rw [this]; exact q
theorem w_app {α : Type} {e : α → D} {l : List α} {x : α} (h : G[i]? = some (some (.ls (l.map e)))) (c : l.length < 10000000) (eG : G.set i (some (.ls ((l ++ [x]).map e))) = G') {k : En → Prop} (q : k G') : CM i appendN (CE k) G [.d (e x)] := by
  have ea : atE G i none = some (.ls (l.map e)) := by unfold atE; rw [h]
  refine withD_w (ds := [e x]) rfl ?_
  rw [ea]
  refine ⟨by simpa using c, ?_⟩
  show k (G.set i _)
  rw [List.map_append] at eG
  rw [show l.map e ++ [e x] = l.map e ++ [x].map e from rfl, eG]
  exact q
theorem w_ext {α : Type} {e : α → D} {l m : List α} (h : G[i]? = some (some (.ls (l.map e)))) (c : l.length + m.length ≤ 10000000) (eG : G.set i (some (.ls ((l ++ m).map e))) = G') {k : En → Prop} (q : k G') : CM i extendN (CE k) G [.d (.lst (m.map e))] := by
  have ea : atE G i none = some (.ls (l.map e)) := by unfold atE; rw [h]
  refine withD_w (ds := [.lst (m.map e)]) rfl ?_
  rw [ea]
  refine ⟨by simpa using c, ?_⟩
  show k (G.set i _)
  rw [List.map_append] at eG
  rw [eG]
  exact q
theorem w_popAt {α : Type} [Inhabited α] {e : α → D} {l : List α} {k : Int} {x : α} (h : G[i]? = some (some (.ls (l.map e)))) (c : 0 ≤ k ∧ k < l.length) (c2 : l.length ≤ 10000000) (ex : x = gi l k) (eG : G.set i (some (.ls ((l.eraseIdx k.toNat).map e))) = G') (q : Q G' (.t (.fz (e x)))) : CM i popAtN Q G [.d (.int k)] := by
  subst ex
  have ea : atE G i none = some (.ls (l.map e)) := by unfold atE; rw [h]
  refine withD_w (ds := [.int k]) rfl ?_
  rw [ea]
  obtain ⟨n, rfl⟩ := Int.eq_ofNat_of_zero_le c.1
  have hn : n < l.length := by omega
  have eg : gi l (n : Int) = l[n] := by
    unfold gi atI ixN
    rw [if_pos (by omega), if_pos (by omega)]
    show (l[(n : Int).toNat]?).getD default = _
    rw [Int.toNat_natCast, List.getElem?_eq_getElem hn]; rfl
  rw [eg] at q
  refine ⟨n, e l[n], rfl, by rw [List.getElem?_map, List.getElem?_eq_getElem hn]; rfl, by omega, ?_⟩
  show Q (G.set i _) _
  rw [Int.toNat_natCast] at eG
  rw [eraseIdx_map', eG]
  exact q
theorem p_popAtE {α : Type} [Inhabited α] {e : α → D} {l : List α} {k : Int} {x : α} {pb : Bool} (h : G[i]? = some (some (.ls (l.map e)))) (p : SA tas G [.d (.int k)]) (c : 0 ≤ k ∧ k < l.length) (c2 : l.length ≤ 10000000) (ex : x = gi l k) (eG : G.set i (some (.ls ((l.eraseIdx k.toNat).map e))) = G') (q : Q G' (.t (.fz (e x)))) :
    dMeth "list" popAtN pb (dVar i) tas G Q := p_popAt h p c c2 eG (by subst ex; exact q)
theorem p_popE {α : Type} [Inhabited α] {e : α → D} {l : List α} {x : α} (h : G[i]? = some (some (.ls (l.map e)))) (c : l ≠ []) (ex : x = l.getLastD default) (eG : G.set i (some (.ls (l.dropLast.map e))) = G') (q : Q G' (.t (.fz (e x)))) :
    dMeth0 "list" popN (dVar i) G Q := p_pop h c eG (by subst ex; exact q)
theorem q_ret (h : te G Ds.rt) : dRet te Ds G := h
def CI (P1 P2 : En → Prop) : En → Bool → Prop := fun G1 b => if b = true then P1 G1 else P2 G1
theorem q_if {s : DTS} (h : tt G (CI (s Ds) (u Ds))) : dIf tt s u Ds G := h
theorem w_if {P1 P2 : En → Prop} (h1 : b = true → P1 G) (h2 : b = false → P2 G) : CI P1 P2 G b := q_ite h1 h2
theorem a_nil (h : QA G []) : dNil G QA := h
theorem a_cons (p : SP te G v) (f : FZ G v d) (h : tas G fun G3 as => QA G3 (.d d :: as)) : dACons te tas G QA := p _ (f.w h)
theorem a_consP (p : SP te G v) (f : FZ G v d) (h : tas G fun G3 as => QA G3 (.d d :: as)) : dAConsP te tas G QA := p _ (f.p h)
def CA (tas : DTA) (QA : En → List AV → Prop) : En → Vl → Prop := fun G1 v => fzW G1 v fun G2 x => tas G2 fun G3 as => QA G3 (.d x :: as)
def CAP (tas : DTA) (QA : En → List AV → Prop) : En → Vl → Prop := fun G1 v => fzP G1 v fun G2 x => tas G2 fun G3 as => QA G3 (.d x :: as)
theorem q_acons (h : te G (CA tas QA)) : dACons te tas G QA := h
theorem q_aconsP (h : te G (CAP tas QA)) : dAConsP te tas G QA := h
theorem w_acons (f : FZ G v d) (h : tas G fun G3 as => QA G3 (.d d :: as)) : CA tas QA G v := f.w h
theorem w_aconsP (f : FZ G v d) (h : tas G fun G3 as => QA G3 (.d d :: as)) : CAP tas QA G v := f.p h
theorem a_lend (h : G[i]? = some (some t)) (q : tas G fun G3 as => QA G3 (.sl i :: as)) : dALend i tas G QA := ⟨⟨t, h⟩, q⟩
def CF (n : Nat) (F : FS) (Q : En → Vl → Prop) : En → List AV → Prop := fun G1 as => as.length = n ∧ (match lendE G1 as with | some p => F p.1 fun outs t => Q (backE p.2 as outs) (.t t) | none => False)
def CFP (n : Nat) (F : FS) (Q : En → Vl → Prop) : En → List AV → Prop := fun G1 as => withD as fun ds => ds.length = n ∧ F (ds.map .fz) fun _ t => Q G1 (.t t)
theorem q_call {F : FS} (h : tas G (CF n F Q)) : dCall n F tas G Q := h
theorem q_callP {F : FS} (h : tas G (CFP n F Q)) : dCallP n F tas G Q := h
theorem c_fin0 {F : FS} {ρ : Type} {P : ρ → Prop} (rt : ρ → T) (e : avD as = some ds) (hn : ds.length = n) (hF : ∀ R : En → T → Prop, (∀ r, P r → R [] (rt r)) → F (ds.map .fz) R) (q : ∀ r, P r → Q G (.t (rt r))) : CF n F Q G as := ⟨by rw [avD_len e]; exact hn, by
  rw [lend_ds e]
  exact hF _ fun r h => by show Q (backE G as []) _; rw [back_ds G e]; exact q r h⟩
theorem c_finP {F : FS} {ρ : Type} {P : ρ → Prop} (rt : ρ → T) (e : avD as = some ds) (hn : ds.length = n) (hF : ∀ R : En → T → Prop, (∀ r, P r → R [] (rt r)) → F (ds.map .fz) R) (q : ∀ r, P r → Q G (.t (rt r))) : CFP n F Q G as := withD_w e ⟨hn, hF _ fun r h => q r h⟩
theorem c_fin1 {F : FS} {π ρ : Type} {P : π → ρ → Prop} {ts : List T} {Gr : En} (pT : π → T) (rt : ρ → T) (Gp : π → En) (hn : as.length = n) (e : lendE G as = some (ts, Gr)) (hF : ∀ R : En → T → Prop, (∀ p r, P p r → R [some (pT p)] (rt r)) → F ts R) (hb : ∀ p, backE Gr as [some (pT p)] = Gp p) (q : ∀ p r, P p r → Q (Gp p) (.t (rt r))) : CF n F Q G as := ⟨hn, by
  rw [e]
  exact hF _ fun p r h => by show Q (backE Gr as [some (pT p)]) _; rw [hb]; exact q p r h⟩
def CB (k : D2) (pb : Bool) (tb : DTE) (Q : En → Vl → Prop) : En → Vl → Prop := fun G1 va => match va, pb with
  | .pk i p, true => tb G1 fun G2 vb => rdW G2 (.pk i p) fun x => rdW G2 vb fun y => k x y fun t => Q G2 (.t t)
  | va, _ => fzW G1 va fun G1' x => tb G1' fun G2 vb => rdW G2 vb fun y => k x y fun t => Q G2 (.t t)
def CB2 (k : D2) (x : D) (Q : En → Vl → Prop) : En → Vl → Prop := fun G2 vb => rdW G2 vb fun y => k x y fun t => Q G2 (.t t)
theorem q_bin {k : D2} {pb : Bool} (h : ta G (CB k pb tb Q)) : dBin k pb ta tb G Q := h
theorem w_bin1 {k : D2} {pb : Bool} {t : T} (r : FZ G (.t t) x) (h : tb G (CB2 k x Q)) : CB k pb tb Q G (.t t) := by
  obtain ⟨_, e0, c, e⟩ := r
  cases e0
  subst e
  cases pb <;> exact ⟨c, h⟩
theorem w_bin2 {k : D2} (r : RD G v y) (hk : ∀ R : T → Prop, R t → k x y R) (h : Q G (.t t)) : CB2 k x Q G v := r.rd _ (hk (fun t => Q G (.t t)) h)
def CX (i : Nat) (Q : En → Vl → Prop) : En → Vl → Prop := fun G1 vb => rdW G1 vb fun y => (match G1[i]? with | some (some t) => rdT t fun x => ixD x y fun r => Q G1 (.t r) | _ => False)
theorem q_ixv (h : G[i]? = some (some t)) (q : tb G (CX i Q)) : dIxV i tb G Q := ⟨⟨t, h⟩, q⟩
theorem w_ixv {t' : T} (r : RD G v y) (h : G[i]? = some (some t)) (e : t.flat = some d) (hk : ∀ R : T → Prop, R t' → ixD d y R) (q : Q G (.t t')) : CX i Q G v := r.rd _ (by
  rw [h]; show rdT t _; unfold rdT; rw [e]; exact hk (fun t => Q G (.t t)) q)
def C1 (k : D1) (Q : En → Vl → Prop) : En → Vl → Prop := fun G1 va => rdW G1 va fun x => k x fun t => Q G1 (.t t)
theorem q_cb1 {k : D1} (h : ta G (C1 k Q)) : dCB1 k ta G Q := h
theorem w_cb1 {k : D1} (r : RD G v x) (hk : ∀ R : T → Prop, R t → k x R) (h : Q G (.t t)) : C1 k Q G v := r.rd _ (hk (fun t => Q G (.t t)) h)
def CT (Q : En → Vl → Prop) : En → List AV → Prop := fun G1 as => withD as fun ds => ds.length ≤ 1000 ∧ Q G1 (.t (.fz (.tup ds)))
def CLs (Q : En → Vl → Prop) : En → List AV → Prop := fun G1 as => withD as fun ds => ds.length ≤ 1000 ∧ Q G1 (.t (.ls ds))
theorem q_tup (h : tas G (CT Q)) : dTup tas G Q := h
theorem q_lst (h : tas G (CLs Q)) : dLst tas G Q := h
theorem w_tup (e : avD as = some ds) (hl : ds.length ≤ 1000) (q : Q G (.t (.fz (.tup ds)))) : CT Q G as := withD_w e ⟨hl, q⟩
theorem w_lst (e : avD as = some ds) (hl : ds.length ≤ 1000) (q : Q G (.t (.ls ds))) : CLs Q G as := withD_w e ⟨hl, q⟩
def C2 (k : DN) (Q : En → Vl → Prop) : En → List AV → Prop := fun G1 as => withD as fun ds => k ds fun t => Q G1 (.t t)
theorem q_cb {k : DN} (h : tas G (C2 k Q)) : dCB k tas G Q := h
theorem w_cb {k : DN} (e : avD as = some ds) (hk : ∀ R : T → Prop, R t → k ds R) (q : Q G (.t t)) : C2 k Q G as := withD_w e (hk (fun t => Q G (.t t)) q)
theorem q_ifE (p : ST tt G c) (h1 : c = true → ta G Q) (h2 : c = false → tb G Q) : dIfE tt ta tb G Q := p _ (q_ite h1 h2)
def CV (QT : En → Bool → Prop) : En → Vl → Prop := fun G1 v => rdW G1 v fun d => isB d fun b => QT G1 b
theorem q_val (h : te G (CV QT)) : dVal te G QT := h
theorem w_val (r : RD G v (.bl b)) (h : QT G b) : CV QT G v := r.rd _ h
def CN (Q : En → Vl → Prop) : En → Vl → Prop := fun G1 v => rdW G1 v fun d => isB d fun b => Q G1 (.t (.fz (.bl (!b))))
theorem q_notv (h : te G (CN Q)) : dNotV te G Q := h
theorem w_notv (r : RD G v (.bl b)) (h : Q G (.t (.fz (.bl (!b))))) : CN Q G v := r.rd _ h
def CNt (QT : En → Bool → Prop) : En → Bool → Prop := fun G c => QT G (!c)
theorem q_tnot (h : tt G (CNt QT)) : dNot tt G QT := h
theorem w_tnot (h : QT G (!b)) : CNt QT G b := h
def CAn (tu : DTT) (QT : En → Bool → Prop) : En → Bool → Prop := fun G1 c => if c = true then tu G1 QT else QT G1 false
def COr (tu : DTT) (QT : En → Bool → Prop) : En → Bool → Prop := fun G1 c => if c = true then QT G1 true else tu G1 QT
theorem q_tand (h : tt G (CAn tu QT)) : dAnd tt tu G QT := h
theorem q_tor (h : tt G (COr tu QT)) : dOr tt tu G QT := h
theorem w_tandi (h1 : a = true → tu G QT) (h2 : a = false → QT G false) : CAn tu QT G a := q_ite h1 h2
theorem w_tori (h1 : a = true → QT G true) (h2 : a = false → tu G QT) : COr tu QT G a := q_ite h1 h2
theorem w_tand (p : a = true → ST tu G b) (h : QT G (a && b)) : CAn tu QT G a := by
  cases a with
  | true => exact p rfl _ h
  | false => exact h
theorem w_tor (p : a = false → ST tu G b) (h : QT G (a || b)) : COr tu QT G a := by
  cases a with
  | true => exact h
  | false => exact p rfl _ h
def CAv (tb : DTE) (Q : En → Vl → Prop) : En → Vl → Prop := fun G1 v => rdW G1 v fun d => isB d fun b => if b = true then tb G1 Q else Q G1 (.t (.fz (.bl false)))
def COv (tb : DTE) (Q : En → Vl → Prop) : En → Vl → Prop := fun G1 v => rdW G1 v fun d => isB d fun b => if b = true then Q G1 (.t (.fz (.bl true))) else tb G1 Q
theorem q_andv (h : ta G (CAv tb Q)) : dAndV ta tb G Q := h
theorem q_orv (h : ta G (COv tb Q)) : dOrV ta tb G Q := h
theorem w_andv (r : RD G v (.bl a)) (h1 : a = true → tb G Q) (h2 : a = false → Q G (.t (.fz (.bl false)))) : CAv tb Q G v := r.rd _ (q_ite h1 h2)
theorem w_orv (r : RD G v (.bl a)) (h1 : a = true → Q G (.t (.fz (.bl true)))) (h2 : a = false → tb G Q) : COv tb Q G v := r.rd _ (q_ite h1 h2)
theorem w_yes {A B : En → Prop} (h : A G) : dYes G (fun G2 b => if b = true then A G2 else B G2) := by
  show (if true = true then A G else B G); rw [if_pos rfl]; exact h
/-! joins of values -/
theorem x_join0 {α : Type} {te0 : DTE} {G0 : En} (E : En) (M : α → Vl) {J : α → Prop} (h1 : (∀ z, J z → Q E (M z)) → te0 G0 Q) (h2 : ∀ z, J z → Q E (M z)) : te0 G0 Q := h1 h2
theorem x_join1 {α β : Type} {te0 : DTE} {G0 : En} (E : α → En) (M : β → Vl) {J : α → β → Prop} (h1 : (∀ a z, J a z → Q (E a) (M z)) → te0 G0 Q) (h2 : ∀ a z, J a z → Q (E a) (M z)) : te0 G0 Q := h1 h2
theorem x_joint0 {tt0 : DTT} {G0 : En} (E : En) {J : Bool → Prop} (h1 : (∀ z, J z → QT E z) → tt0 G0 QT) (h2 : ∀ z, J z → QT E z) : tt0 G0 QT := h1 h2
theorem x_joint1 {α : Type} {tt0 : DTT} {G0 : En} (E : α → En) {J : α → Bool → Prop} (h1 : (∀ a z, J a z → QT (E a) z) → tt0 G0 QT) (h2 : ∀ a z, J a z → QT (E a) z) : tt0 G0 QT := h1 h2
/-! comprehensions that do something -/
theorem sim_lc0 {α β : Type} {g : DTG} {vs : List Nat} (e : α → D) (eb : β → D) (E : En) {step : List β → α → (List β → Prop) → Prop} {k : List β → Prop} {QL : En → List D → Prop}
    (hs : ∀ acc x (P : List β → Prop) (C : List D → En → Prop), step acc x P → (∀ a ds G, P a → ds = a.map eb → wipeE G vs = E → C ds G) → (acc.map eb).length < 10000000 ∧ g (e x) E fun G1 => tt G1 fun G2 b => if b = true then te G2 fun G3 v => fzW G3 v fun G4 d => C (acc.map eb ++ [d]) G4 else C (acc.map eb) G2)
    (hk : ∀ acc G, k acc → wipeE G vs = E → QL G (acc.map eb)) : ∀ (xs : List α) (acc : List β) (G : En), wipeE G vs = E → wFor1 xs acc step k → compW g tt te vs QL (xs.map e) (acc.map eb) G
  | [], acc, G, hw, h => hk acc G h hw
  | x :: r, acc, G, hw, h => by
    have := hs acc x _ (fun ds G => compW g tt te vs QL (r.map e) ds G) h (fun a ds G h ed hw => by rw [ed]; exact sim_lc0 e eb E hs hk r a G hw h)
    show _ ∧ g (e x) (wipeE G vs) _
    rw [hw]; exact this
theorem q_lc0 {α β : Type} {ti : DTI} {g : DTG} {vs : List Nat} {xs : List α} (e : α → D) (eb : β → D) (E : En) {step : List β → α → (List β → Prop) → Prop} {k : List β → Prop} (pi : SI ti E (xs.map e)) (h : wFor1 xs [] step k)
    (hs : ∀ acc x (P : List β → Prop) (C : List D → En → Prop), step acc x P → (∀ a ds G, P a → ds = a.map eb → wipeE G vs = E → C ds G) → (acc.map eb).length < 10000000 ∧ g (e x) E fun G1 => tt G1 fun G2 b => if b = true then te G2 fun G3 v => fzW G3 v fun G4 d => C (acc.map eb ++ [d]) G4 else C (acc.map eb) G2)
    (hw : wipeE E vs = E ∧ unwipe E E vs = E) (hk : ∀ acc, k acc → Q E (.t (.ls (acc.map eb)))) : dLc ti g tt te vs E Q := pi _ (by
  refine sim_lc0 e eb E hs (fun acc G ha hG => ?_) xs [] E hw.1 h
  rw [hG, hw.2]; exact hk acc ha)
theorem sim_lc1 {α β γ : Type} {g : DTG} {vs : List Nat} (e : α → D) (eb : β → D) (E : γ → En) {step : γ → List β → α → (γ → List β → Prop) → Prop} {k : γ → List β → Prop} {QL : En → List D → Prop}
    (hs : ∀ s acc x (P : γ → List β → Prop) (C : List D → En → Prop), step s acc x P → (∀ s a ds G, P s a → ds = a.map eb → wipeE G vs = E s → C ds G) → (acc.map eb).length < 10000000 ∧ g (e x) (E s) fun G1 => tt G1 fun G2 b => if b = true then te G2 fun G3 v => fzW G3 v fun G4 d => C (acc.map eb ++ [d]) G4 else C (acc.map eb) G2)
    (hk : ∀ s acc G, k s acc → wipeE G vs = E s → QL G (acc.map eb)) : ∀ (xs : List α) (s : γ) (acc : List β) (G : En), wipeE G vs = E s → wFor2 xs s acc step k → compW g tt te vs QL (xs.map e) (acc.map eb) G
  | [], s, acc, G, hw, h => hk s acc G h hw
  | x :: r, s, acc, G, hw, h => by
    have := hs s acc x _ (fun ds G => compW g tt te vs QL (r.map e) ds G) h (fun s a ds G h ed hw => by rw [ed]; exact sim_lc1 e eb E hs hk r s a G hw h)
    show _ ∧ g (e x) (wipeE G vs) _
    rw [hw]; exact this
theorem q_lc1 {α β γ : Type} {ti : DTI} {g : DTG} {vs : List Nat} {xs : List α} {s0 : γ} (e : α → D) (eb : β → D) (E : γ → En) {step : γ → List β → α → (γ → List β → Prop) → Prop} {k : γ → List β → Prop} (pi : SI ti (E s0) (xs.map e)) (h : wFor2 xs s0 [] step k)
    (hs : ∀ s acc x (P : γ → List β → Prop) (C : List D → En → Prop), step s acc x P → (∀ s a ds G, P s a → ds = a.map eb → wipeE G vs = E s → C ds G) → (acc.map eb).length < 10000000 ∧ g (e x) (E s) fun G1 => tt G1 fun G2 b => if b = true then te G2 fun G3 v => fzW G3 v fun G4 d => C (acc.map eb ++ [d]) G4 else C (acc.map eb) G2)
    (hw : ∀ a, wipeE (E a) vs = E a) (hk : ∀ s acc, k s acc → Q (E s) (.t (.ls (acc.map eb)))) : dLc ti g tt te vs (E s0) Q := pi _ (by
  refine sim_lc1 e eb E hs (fun s acc G ha hG => ?_) xs s0 [] (E s0) (hw s0) h
  rw [hG]
  have : unwipe (E s0) (E s) vs = E s := by
    have none0 : ∀ v ∈ vs, (E s0)[v]? = none ∨ (E s0)[v]? = some none := fun v hv => by
      have e0 := hw s0
      have : (wipeE (E s0) vs)[v]? = if v ∈ vs then ((E s0)[v]?.map fun _ => none) else (E s0)[v]? := by
        have len : ∀ (G : En) (us : List Nat), (wipeE G us).length = G.length := fun G us => by
          induction us with
          | nil => rfl
          | cons u us ih => simp only [wipeE, List.length_set, ih]
        have get : ∀ (G : En) (us : List Nat) (j : Nat), (wipeE G us)[j]? = if j ∈ us then (G[j]?.map fun _ => none) else G[j]? := fun G us j => by
          induction us with
          | nil => simp [wipeE]
          | cons u us ih =>
            simp only [wipeE]
            by_cases e : u = j
            · subst e
              rw [if_pos (by simp)]
              by_cases hl : u < G.length
              · rw [List.getElem?_set_self (by rw [len]; exact hl), List.getElem?_eq_getElem hl]; rfl
              · rw [List.getElem?_eq_none (by simp [len]; omega), List.getElem?_eq_none (by omega)]; rfl
            · rw [List.getElem?_set_ne e, ih]; simp [Ne.symm e]
        exact get _ _ _
      rw [e0, if_pos hv] at this
      cases q : (E s0)[v]? with
      | none => exact .inl rfl
      | some z => rw [q] at this; right; rw [this]; rfl
    have go : ∀ us : List Nat, (∀ v ∈ us, (E s0)[v]? = none ∨ (E s0)[v]? = some none) → unwipe (E s0) (E s) us = E s := fun us => by
      induction us with
      | nil => intro _; rfl
      | cons v us ih =>
        intro hh
        show (match (E s0)[v]? with | some (some (.fz d)) => (unwipe (E s0) (E s) us).set v (some (.fz d)) | _ => unwipe (E s0) (E s) us) = E s
        rcases hh v (by simp) with q | q
        · rw [q]; exact ih fun w hw => hh w (by simp [hw])
        · rw [q]; exact ih fun w hw => hh w (by simp [hw])
    exact go vs none0
  rw [this]; exact hk s acc ha)
theorem unwipe_E {E0 E1 : En} {vs : List Nat} (hw0 : wipeE E0 vs = E0) : unwipe E0 E1 vs = E1 := by
  have none0 : ∀ v ∈ vs, E0[v]? = none ∨ E0[v]? = some none := fun v hv => by
    have e0 := hw0
    have : (wipeE E0 vs)[v]? = if v ∈ vs then (E0[v]?.map fun _ => none) else E0[v]? := by
      have len : ∀ (G : En) (us : List Nat), (wipeE G us).length = G.length := fun G us => by
        induction us with
        | nil => rfl
        | cons u us ih => simp only [wipeE, List.length_set, ih]
      have get : ∀ (G : En) (us : List Nat) (j : Nat), (wipeE G us)[j]? = if j ∈ us then (G[j]?.map fun _ => none) else G[j]? := fun G us j => by
        induction us with
        | nil => simp [wipeE]
        | cons u us ih =>
          simp only [wipeE]
          by_cases e : u = j
          · subst e
            rw [if_pos (by simp)]
            by_cases hl : u < G.length
            · rw [List.getElem?_set_self (by rw [len]; exact hl), List.getElem?_eq_getElem hl]; rfl
            · rw [List.getElem?_eq_none (by simp [len]; omega), List.getElem?_eq_none (by omega)]; rfl
          · rw [List.getElem?_set_ne e, ih]; simp [Ne.symm e]
      exact get _ _ _
    rw [e0, if_pos hv] at this
    cases q : E0[v]? with
    | none => exact .inl rfl
    | some z => rw [q] at this; right; rw [this]; rfl
  have go : ∀ us : List Nat, (∀ v ∈ us, E0[v]? = none ∨ E0[v]? = some none) → unwipe E0 E1 us = E1 := fun us => by
    induction us with
    | nil => intro _; rfl
    | cons v us ih =>
      intro hh
      show (match E0[v]? with | some (some (.fz d)) => (unwipe E0 E1 us).set v (some (.fz d)) | _ => unwipe E0 E1 us) = E1
      rcases hh v (by simp) with q | q
      · rw [q]; exact ih fun w hw => hh w (by simp [hw])
      · rw [q]; exact ih fun w hw => hh w (by simp [hw])
  exact go vs none0
theorem sim_lc2 {α β γ δ : Type} {g : DTG} {vs : List Nat} (e : α → D) (eb : β → D) (E : γ → δ → En) {step : γ → δ → List β → α → (γ → δ → List β → Prop) → Prop} {k : γ → δ → List β → Prop} {QL : En → List D → Prop}
    (hs : ∀ s t acc x (P : γ → δ → List β → Prop) (C : List D → En → Prop), step s t acc x P → (∀ s t a ds G, P s t a → ds = a.map eb → wipeE G vs = E s t → C ds G) → (acc.map eb).length < 10000000 ∧ g (e x) (E s t) fun G1 => tt G1 fun G2 b => if b = true then te G2 fun G3 v => fzW G3 v fun G4 d => C (acc.map eb ++ [d]) G4 else C (acc.map eb) G2)
    (hk : ∀ s t acc G, k s t acc → wipeE G vs = E s t → QL G (acc.map eb)) : ∀ (xs : List α) (s : γ) (t : δ) (acc : List β) (G : En), wipeE G vs = E s t → wFor3 xs s t acc step k → compW g tt te vs QL (xs.map e) (acc.map eb) G
  | [], s, t, acc, G, hw, h => hk s t acc G h hw
  | x :: r, s, t, acc, G, hw, h => by
    have := hs s t acc x _ (fun ds G => compW g tt te vs QL (r.map e) ds G) h (fun s t a ds G h ed hw => by rw [ed]; exact sim_lc2 e eb E hs hk r s t a G hw h)
    show _ ∧ g (e x) (wipeE G vs) _
    rw [hw]; exact this
theorem q_lc2 {α β γ δ : Type} {ti : DTI} {g : DTG} {vs : List Nat} {xs : List α} {s0 : γ} {t0 : δ} (e : α → D) (eb : β → D) (E : γ → δ → En) {step : γ → δ → List β → α → (γ → δ → List β → Prop) → Prop} {k : γ → δ → List β → Prop} (pi : SI ti (E s0 t0) (xs.map e)) (h : wFor3 xs s0 t0 [] step k)
    (hs : ∀ s t acc x (P : γ → δ → List β → Prop) (C : List D → En → Prop), step s t acc x P → (∀ s t a ds G, P s t a → ds = a.map eb → wipeE G vs = E s t → C ds G) → (acc.map eb).length < 10000000 ∧ g (e x) (E s t) fun G1 => tt G1 fun G2 b => if b = true then te G2 fun G3 v => fzW G3 v fun G4 d => C (acc.map eb ++ [d]) G4 else C (acc.map eb) G2)
    (hw : ∀ a b, wipeE (E a b) vs = E a b) (hk : ∀ s t acc, k s t acc → Q (E s t) (.t (.ls (acc.map eb)))) : dLc ti g tt te vs (E s0 t0) Q := pi _ (by
  refine sim_lc2 e eb E hs (fun s t acc G ha hG => ?_) xs s0 t0 [] (E s0 t0) (hw s0 t0) h
  rw [hG, unwipe_E (hw s0 t0)]; exact hk s t acc ha)
end
/-- a promise that asks for more -/
theorem fn_weak {P : Program} {w : World} {K : PySem.W.Frag} {mg : Str → Option Value} {base : Heap} {k : Nat} {x : Str} {n m : Nat} {F F' : FS} (h : ∀ ts R, F' ts R → F ts R) (c : Fn P w K mg base k x n m F) : Fn P w K mg base k x n m F' := by
  obtain ⟨f, fd, ps, G, a, b, e⟩ := c
  refine ⟨f, fd, ps, ⟨fun vs H Q E sp => ?_, fun A outer s H args us vs Q E q1 q2 q3 q4 q5 sp => G.run A outer s H args us vs Q E q1 q2 q3 q4 q5 ?_⟩, a, b, e⟩
  · obtain ⟨hl, h0, ts, fp, R, z1, z2, z3, z4, z5⟩ := sp
    exact G.len vs H Q E ⟨hl, h0, ts, fp, R, z1, z2, z3, h _ _ z4, z5⟩
  · obtain ⟨hl, h0, ts, fp, R, z1, z2, z3, z4, z5⟩ := sp
    exact ⟨hl, h0, ts, fp, R, z1, z2, z3, h _ _ z4, z5⟩
/-! None -/
theorem k_isO {α : Type} {e : α → D} (hn : ∀ a, (match e a with | .opq _ => False | .non => False | _ => True)) {o : Option α} : ∀ R : T → Prop, R (.fz (.bl o.isNone)) → isNoneD false (eO e o) .non R := fun R h => by
  cases o with
  | none => exact h
  | some a =>
    have := hn a
    show (match e a with | .opq _ => False | .non => R (.fz (.bl (false != true))) | _ => R (.fz (.bl (false != false))))
    generalize e a = d at this ⊢
    cases d <;> first | exact this.elim | exact h
theorem k_isnO {α : Type} {e : α → D} (hn : ∀ a, (match e a with | .opq _ => False | .non => False | _ => True)) {o : Option α} : ∀ R : T → Prop, R (.fz (.bl (!o.isNone))) → isNoneD true (eO e o) .non R := fun R h => by
  cases o with
  | none => exact h
  | some a =>
    have := hn a
    show (match e a with | .opq _ => False | .non => R (.fz (.bl (true != true))) | _ => R (.fz (.bl (true != false))))
    generalize e a = d at this ⊢
    cases d <;> first | exact this.elim | exact h
def isNon : D → Bool
  | .non => true
  | _ => false
def noneOk : D → Prop
  | .opq _ => False
  | _ => True
theorem k_isD' {d : D} (c : noneOk d) : ∀ R : T → Prop, R (.fz (.bl (isNon d))) → isNoneD false d .non R := fun R h => by
  cases d <;> first | exact c.elim | exact h
theorem k_isnD {d : D} (c : noneOk d) : ∀ R : T → Prop, R (.fz (.bl (!isNon d))) → isNoneD true d .non R := fun R h => by
  cases d <;> first | exact c.elim | exact h
end DL

/-! list(range(a, b)); defs as values. -/
namespace TY
open PySem PySem.Spec L2 DL
section
variable {G : En} {te ta tb : DTE} {v va vb : Vl} {tas : DTA} {as : List AV} {ds : List D} {n : Nat} {i : Nat}
theorem sp_listR2 {i j : Int} (p : SP ta G va) (r : RD G va (.int i)) (p2 : SP tb G vb) (r2 : RD G vb (.int j)) (c : (-1000 ≤ i ∧ i ≤ 1000000) ∧ -1000 ≤ j ∧ j ≤ 1000000) : SP (dListR2 ta tb) G (.t (.ls ((irange i j).map D.int))) := fun Q q => p _ (r.rd _ (p2 _ (r2.rd _ (by
  refine ⟨?_, ?_⟩
  · unfold RgOk; omega
  · rw [upto_irange]; exact q))))
theorem sp_revL {α : Type} {e : α → D} {l : List α} (p : SP te G v) (r : RD G v (.lst (l.map e))) : SP (dRevL te) G (.t (.ls (l.reverse.map e))) := fun Q q => p _ (r.rd _ (by
  show Q G (.t (.ls (l.map e).reverse)); rw [← List.map_reverse]; exact q))
/-- one of two -/
def sel {α : Type} (k : Nat) (a b : α) : α := match k with | 0 => a | _ => b
/-- one of some defs, as a value -/
def eFn (mg : Str → Option Value) (names : List Str) (k : Nat) : D := .opq (fv mg (names.getD k ""))
theorem sp_callV {mg : Str → Option Value} {names : List Str} {f : Nat} {M : Nat → T} {FTs : List FT} (r : SA tas G as) (hG : G[i]? = some (some (.fz (eFn mg names f)))) (e : avD as = some ds) (hl : ds.length = n)
    (hF : ∃ k, f = k ∧ ∃ ft, FTs[k]? = some ft ∧ ft.x = names.getD k "" ∧ ∀ R : En → T → Prop, R [] (M k) → ft.F (ds.map .fz) R) : SP (dCallV mg i n FTs tas) G (.t (M f)) := fun Q q => by
  obtain ⟨k, rfl, ft, e1, e2, hF⟩ := hF
  refine ⟨ft, List.mem_of_getElem? e1, ?_, sp_call r e hl hF Q q⟩
  rw [hG, e2]; rfl
/-! methods that only read -/
theorem sp_rdV {t t' : T} {l : List D} {y : D} {k : D2} {tb : DTE} (hG : G[i]? = some (some t)) (e : t.flat = some (.lst l)) (p : SP tb G v) (r : RD G v y) (hk : ∀ R : T → Prop, R t' → k (.lst l) y R) : SP (dRdV k i tb) G (.t t') := fun Q q => by
  refine ⟨⟨t, hG, by unfold rdT; rw [e]; trivial⟩, p _ (r.rd _ ?_)⟩
  simp only [hG]
  show rdT t _
  unfold rdT; rw [e]
  exact ⟨trivial, hk _ q⟩
theorem k_count {l : List Int} {k : Int} : ∀ R : T → Prop, R (.fz (D.int ((l.count k : Nat) : Int))) → cntD (.lst (l.map D.int)) (.int k) R := fun R h => ⟨l, rfl, h⟩
theorem k_index {l : List Int} {k : Int} (c : k ∈ l) : ∀ R : T → Prop, R (.fz (D.int ((l.idxOf k : Nat) : Int))) → idxD (.lst (l.map D.int)) (.int k) R := fun R h =>
  ⟨l, rfl, l.idxOf k, by rw [List.getElem?_eq_getElem (List.idxOf_lt_length_iff.mpr c), List.getElem_idxOf], fun m hm e => by
    have := List.getElem?_eq_some_iff.mp e
    obtain ⟨h1, h2⟩ := this
    have := List.not_of_lt_findIdx (p := (· == k)) (xs := l) hm
    simp at this; exact this h2, h⟩
/-! loops over what something yields -/
def iLit (xs : List D) : DTI := fun G Q => Q G xs
theorem si_lit {xs : List D} : SI (iLit xs) G xs := fun Q q => q
def CFi (g : DTG) (tb u : DTS) (Ds : DEnds) : En → Vl → Prop := fun G v => fzW G v fun G2 d => match d with
  | .lst ds => dSeq (dFor (iLit ds) g tb) u Ds G2 | .tup ds => dSeq (dFor (iLit ds) g tb) u Ds G2 | .scr ns => dSeq (dFor (iLit (ns.map .int)) g tb) u Ds G2 | _ => False
theorem q_forx {g : DTG} {tb u : DTS} {Ds : DEnds} {te : DTE} (h : te G (CFi g tb u Ds)) : dSeq (dFor (iSeqD te) g tb) u Ds G := h
theorem w_forxL {g : DTG} {tb u : DTS} {Ds : DEnds} {xs : List D} (f : FZ G v (.lst xs)) (h : dSeq (dFor (iLit xs) g tb) u Ds G) : CFi g tb u Ds G v := f.w h
theorem w_forxU {g : DTG} {tb u : DTS} {Ds : DEnds} {xs : List D} (f : FZ G v (.tup xs)) (h : dSeq (dFor (iLit xs) g tb) u Ds G) : CFi g tb u Ds G v := f.w h
def CFr (g : DTG) (tb u : DTS) (Ds : DEnds) : En → Vl → Prop := fun G1 v => fzW G1 v fun G2 d => dNil G2 fun G3 as => withD (.d d :: as) fun ds => match ds with
  | [.int j] => -(2 ^ 62) ≤ j ∧ j < 2 ^ 62 ∧ dSeq (dFor (iLit (upto 0 j.toNat)) g tb) u Ds G3 | _ => False
theorem q_forr {g : DTG} {tb u : DTS} {Ds : DEnds} {te : DTE} (h : te G (CFr g tb u Ds)) : dSeq (dFor (iRange1 (dACons te dNil)) g tb) u Ds G := h
theorem w_forr {g : DTG} {tb u : DTS} {Ds : DEnds} {j : Int} (f : FZ G v (.int j)) (c : -(2 ^ 62) ≤ j ∧ j < 2 ^ 62) (h : dSeq (dFor (iLit ((irange 0 j).map D.int)) g tb) u Ds G) : CFr g tb u Ds G v := by
  refine f.w ?_
  unfold dNil
  exact withD_w (ds := [.int j]) rfl ⟨c.1, c.2, by rw [upto_irange0]; exact h⟩
theorem sp_cast {te : DTE} {d d' : D} (e : d = d') (p : SP te G (.t (.fz d))) : SP te G (.t (.fz d')) := e ▸ p
theorem eU_some {l : List (Option Int)} (c : ∀ x ∈ l, x.isSome = true) : eU (eO D.int) l = eU D.int (l.map fun x => x.getD 0) := by
  show D.tup (l.map (eO D.int)) = D.tup ((l.map fun x => x.getD 0).map D.int)
  rw [List.map_map]
  congr 1
  refine List.map_congr_left fun x m => ?_
  obtain ⟨v, rfl⟩ := Option.isSome_iff_exists.mp (c x m)
  rfl
theorem eO_some {α : Type} [Inhabited α] {e : α → D} {o : Option α} (c : o.isSome = true) : eO e o = e (o.getD default) := by
  obtain ⟨v, rfl⟩ := Option.isSome_iff_exists.mp c
  rfl
theorem sp_maxDef {te : DTE} {l : List Int} (p : SP te G v) (r : RD G v (.tup (l.map D.int))) : SP (dMaxDef te) G (.t (.fz (D.int (maxDef (-1) l)))) := fun Q q => p _ (r.rd _ ⟨l, rfl, q⟩)
def irangeD (i j : Int) : List Int := (List.range (i - j).toNat).map fun k => i + (k : Nat) * (-1)
theorem si_rangeD {i j : Int} (r : SA tas G [.d (.int i), .d (.int j), .d (.int (-1))]) (c : -(2 ^ 62) ≤ i ∧ i < 2 ^ 62 ∧ -(2 ^ 62) ≤ j ∧ j < 2 ^ 62) : SI (iRange3 tas) G ((irangeD i j).map D.int) := fun Q q => r _ ⟨(i - j).toNat, RgC.neg c.1 c.2.1 c.2.2.1 c.2.2.2, by
  show Q G ((List.range (i - j).toNat).map fun k => D.int (i + (k : Nat) * (-1)))
  unfold irangeD at q
  rw [List.map_map] at q
  exact q⟩
theorem sg_nest2 {i j k l : Nat} {d1 d2 d3 d4 : D} (hi : i < G.length) (hj : j < G.length) (hk : k < G.length) (hl : l < G.length) (e : (((G.set i (some (.fz d1))).set j (some (.fz d2))).set k (some (.fz d3))).set l (some (.fz d4)) = G') : SG (gT 2 (gsCons (gT 2 (gsCons (gN i) (gsCons (gN j) gsNil))) (gsCons (gT 2 (gsCons (gN k) (gsCons (gN l) gsNil))) gsNil))) (.tup [.tup [d1, d2], .tup [d3, d4]]) G G' := fun Q q =>
  ⟨rfl, rfl, hi, by simpa using hj, rfl, rfl, by simpa using hk, by simpa using hl, rfl, rfl, by rw [e]; exact q⟩
theorem sp_callB {F : FS} {ts : List T} {Gr : En} {b : Bool} (r : SA tas G as) (hl : as.length = n) (e : lendE G as = some (ts, Gr)) (ef : flatTs ts = some ds) (hF : ∀ R : En → T → Prop, R [] (.fz (.bl b)) → F (ds.map .fz) R) : SP (dCallB n F tas) G (.t (.fz (.bl b))) := fun Q q =>
  r _ ⟨hl, by
    rw [e]; simp only; rw [ef]
    exact hF (fun _ t => ∃ b, t = .fz (.bl b) ∧ Q G (.t (.fz (.bl b)))) ⟨b, rfl, q⟩⟩
/-! sorted tuples of ints -/
def leI (a b : List Int) : Bool := !lexI b a
def sortK (l : List (List Int)) : List (List Int) := l.mergeSort leI
theorem leI_trans (a b c : List Int) (h1 : leI a b = true) (h2 : leI b c = true) : leI a c = true := by
  unfold leI at *
  simp only [Bool.not_eq_true'] at *
  exact lexI_tr c b a h2 h1
theorem leI_total (a b : List Int) : (leI a b || leI b a) = true := by
  unfold leI
  cases h : lexI b a with
  | false => rfl
  | true => rw [lexI_asymm _ _ h]; rfl
theorem sortK_perm (l : List (List Int)) : (sortK l).Perm l := List.mergeSort_perm l _
theorem sortK_sorted (l : List (List Int)) : (sortK l).Pairwise fun a b => lexI b a = false :=
  (List.pairwise_mergeSort leI_trans leI_total l).imp fun h => by unfold leI at h; simpa using h
theorem sortK_of {l m : List (List Int)} (h : m.Perm l) (s : m.Pairwise fun a b => lexI b a = false) : m = sortK l :=
  List.Perm.eq_of_pairwise (fun a b _ _ h1 h2 => lexI_eq _ _ h2 h1) s (sortK_sorted l) (h.trans (sortK_perm l).symm)
theorem k_sortU {l : List (List Int)} (c : 2 ≤ l.length → ∀ k ∈ l, k ≠ []) : ∀ R : T → Prop, R (.ls ((sortK l).map (eU D.int))) → sortedND [.lst (l.map (eU D.int))] R := fun R h => ⟨l, rfl, c, fun m hm hs => by rw [sortK_of hm hs]; exact h⟩
theorem p_rev {α : Type} {e : α → D} {l : List α} {u : DTS} {Ds : DEnds} {G' : En} (h : G[i]? = some (some (.ls (l.map e)))) (eG : G.set i (some (.ls (l.reverse.map e))) = G') (q : u Ds G') : dSeq (dExpr (dMeth0 "list" reverseN (dVar i))) u Ds G := by
  refine q_seqx ?_
  refine (sp_var h trivial) _ ?_
  have ea : atE G i none = some (.ls (l.map e)) := by unfold atE; rw [h]
  show (match atE G i none with | some t => t.ty = "list" ∧ reverseN t [] fun t' r => u Ds (setE G i none t') | none => False)
  rw [ea]
  refine ⟨rfl, ?_⟩
  show u Ds (setE G i none (.ls (l.map e).reverse))
  rw [← List.map_reverse]
  show u Ds (G.set i _)
  rw [eG]; exact q
/-! how many of a tuple's ints are different -/
def ddI : List Int → List Int
  | [] => []
  | a :: r => if a ∈ r then ddI r else a :: ddI r
theorem mem_ddI {k : Int} : ∀ {l : List Int}, k ∈ ddI l ↔ k ∈ l
  | [] => by simp [ddI]
  | a :: r => by
    have ih := mem_ddI (k := k) (l := r)
    unfold ddI
    by_cases h : a ∈ r
    · rw [if_pos h, ih, List.mem_cons]
      exact ⟨.inr, fun q => q.elim (fun e => e ▸ h) id⟩
    · rw [if_neg h, List.mem_cons, List.mem_cons, ih]
theorem ddI_nodup : ∀ l : List Int, (ddI l).Nodup
  | [] => by simp [ddI]
  | a :: r => by
    unfold ddI
    by_cases h : a ∈ r
    · rw [if_pos h]; exact ddI_nodup r
    · rw [if_neg h]; exact List.nodup_cons.mpr ⟨fun m => h (mem_ddI.mp m), ddI_nodup r⟩
theorem sp_lenSet {te : DTE} {l : List Int} (p : SP te G v) (r : RD G v (.tup (l.map D.int))) (c : l.length ≤ 4000) : SP (dLenSet te) G (.t (.fz (D.int ((ddI l).length : Int)))) := fun Q q => p _ (r.rd _ ⟨l, rfl, c, fun ks nd hk => by
  have e : ks.length = (ddI l).length := ((List.perm_ext_iff_of_nodup nd (ddI_nodup l)).mpr fun k => (hk k).trans mem_ddI.symm).length_eq
  rw [e]; exact q⟩)
theorem c_finV {n : Nat} {as : List AV} {ds : List D} {F : FS} {t : T} (e : avD as = some ds) (hn : ds.length = n) (hF : ∀ R : En → T → Prop, R [] t → F (ds.map .fz) R) (q : Q G (.t t)) : CF n F Q G as := ⟨by rw [avD_len e]; exact hn, by
  rw [lend_ds e]
  exact hF _ (by show Q (backE G as []) _; rw [back_ds G e]; exact q)⟩
theorem c_finVP {n : Nat} {as : List AV} {ds : List D} {F : FS} {t : T} (e : avD as = some ds) (hn : ds.length = n) (hF : ∀ R : En → T → Prop, R [] t → F (ds.map .fz) R) (q : Q G (.t t)) : CFP n F Q G as := withD_w e ⟨hn, hF _ q⟩
theorem sp_sortSet {te : DTE} {l : List Int} (p : SP te G v) (r : RD G v (.tup (l.map D.int))) (c : l.length < 64) : SP (dSortSet te) G (.t (.ls ((sortI (ddI l)).map D.int))) := fun Q q => p _ (r.rd _ ⟨l, rfl, c, fun ks hs hk => by
  have e : ks = sortI (ddI l) := sortI_of ((List.perm_ext_iff_of_nodup (hs.imp fun {a b} h e => by omega) (ddI_nodup l)).mpr fun k => (hk k).trans mem_ddI.symm) (hs.imp fun h => by omega)
  rw [e]; exact q⟩)
/-! a store whose value does something -/
def CSto (pb : Bool) (i : Nat) (ti : DTE) (u : DTS) (Ds : DEnds) : En → Vl → Prop := fun G1 v => fzW G1 v fun G2 d => dVar i G2 fun G3 vo => match vo with
  | .pk i p => ti G3 fun G4 vi => (p = none ∨ pb = true) ∧ rdW G4 vi fun y => (match atE G4 i p with | some t => storeN t y d fun t' => u Ds (setE G4 i p t') | none => False)
  | .t _ => False
theorem q_sto {te ti : DTE} {pb : Bool} {u : DTS} {Ds : DEnds} (h : te G (CSto pb i ti u Ds)) : dSeq (dStore pb te (dVar i) ti) u Ds G := h
theorem ix_last {n : Nat} (h : 0 < n) : ixN n (-1) = some (n - 1) := by
  unfold ixN
  rw [if_neg (by omega), if_pos (by omega)]
  congr 1; omega
theorem w_stoL {α : Type} {e : α → D} {l : List α} {k : Int} {j : Nat} {x : α} {pb : Bool} {ti : DTE} {vi : Vl} {u : DTS} {Ds : DEnds} {G' : En} (f : FZ G v (e x)) (h : G[i]? = some (some (.ls (l.map e)))) (pi : SP ti G vi) (ri : RD G vi (.int k)) (ek : ixN l.length k = some j)
    (eG : G.set i (some (.ls ((l.set j x).map e))) = G') (q : u Ds G') : CSto pb i ti u Ds G v := by
  refine f.w ((sp_var h trivial) _ (pi _ ⟨.inl rfl, ri.rd _ ?_⟩))
  have ea : atE G i none = some (.ls (l.map e)) := by unfold atE; rw [h]
  rw [ea]
  show (match ixN (l.map e).length k with | some j => _ | none => False)
  rw [List.length_map, ek]
  show u Ds (G.set i _)
  rw [DL.set_map, eG]; exact q
theorem k_lenP {l : List D} {n : Nat} (e : l.length = n) : ∀ R : T → Prop, R (.fz (D.int (n : Int))) → lenD [.tup l] R := fun R h => by subst e; exact h
end
end TY

/-! Typed steps: instances, lists of owned lists. -/
namespace DL
open PySem PySem.Spec L2
section
variable {G G' : En} {te : DTE} {tas : DTA} {v : Vl} {d : D} {i n : Nat} {C : Addr} {f m : Str} {l l' : List (Str × T)} {u : DTS} {Ds : DEnds} {Q : En → Vl → Prop}
theorem lk_0 {x : T} {r : List (Str × T)} : look ((f, x) :: r) f = some x := by unfold look; rw [if_pos rfl]
theorem lk_s {g : Str} {x : T} {r : List (Str × T)} {o : Option T} (h : g ≠ f) (e : look r f = o) : look ((g, x) :: r) f = o := by unfold look; rw [if_neg h]; exact e
theorem lk_n : look ([] : List (Str × T)) f = none := rfl
theorem pf_n {t : T} : putFl [] f t = [(f, t)] := rfl
theorem pf_0 {x t : T} {r : List (Str × T)} : putFl ((f, x) :: r) f t = (f, t) :: r := by unfold putFl; rw [if_pos rfl]
theorem pf_s {g : Str} {x t : T} {r r' : List (Str × T)} (h : g ≠ f) (e : putFl r f t = r') : putFl ((g, x) :: r) f t = (g, x) :: r' := by unfold putFl; rw [if_neg h, e]
theorem sp_fld (h : G[i]? = some (some (.ins C l))) (hl : look l f = some (.fz d)) : SP (dFld C i f) G (.t (.fz d)) := fun Q q => by
  unfold dFld; rw [h]; exact ⟨rfl, by rw [hl]; exact q⟩
theorem p_fputZ (h : G[i]? = some (some (.ins C l))) (p : SP te G v) (fz : FZ G v d) (e : putFl l f (.fz d) = l') (c : l.length < 900) (eG : G.set i (some (.ins C l')) = G') (q : u Ds G') : dSeq (dFPutZ C i f te) u Ds G :=
  p _ (fz.w (by unfold fputW; rw [h]; exact ⟨rfl, c, by rw [e, eG]; exact q⟩))
def CFp (C : Addr) (i : Nat) (f : Str) (k : En → Prop) : En → Vl → Prop := fun G1 v => fzW G1 v fun G2 d => fputW C i f k G2 (.fz d)
theorem q_fputZ (h : te G (CFp C i f (u Ds))) : dSeq (dFPutZ C i f te) u Ds G := h
theorem w_fputZ {k : En → Prop} (h : G[i]? = some (some (.ins C l))) (fz : FZ G v d) (e : putFl l f (.fz d) = l') (c : l.length < 900) (eG : G.set i (some (.ins C l')) = G') (q : k G') : CFp C i f k G v :=
  fz.w (by unfold fputW; rw [h]; exact ⟨rfl, c, by rw [e, eG]; exact q⟩)
theorem q_mth {F : FS} (h : G[i]? = some (some (.ins C l))) (hl : look l m = none) (q : dCall n F (dALend i tas) G Q) : dMth C i m n F tas G Q := ⟨by rw [h]; exact ⟨rfl, hl⟩, q⟩
theorem q_retN (h : Ds.rt G (.t (.fz .non))) : dRetN Ds G := h
def CMk (C : Addr) (n : Nat) (F : FS) (Q : En → Vl → Prop) : En → List AV → Prop := fun G1 as => withD as fun ds => ds.length + 1 = n ∧ F (.ins C [] :: ds.map .fz) fun outs t => (match outs with
  | [some t1] => t = .fz .non ∧ Q G1 (.t t1)
  | _ => False)
theorem q_make {F : FS} (h : tas G (CMk C n F Q)) : dMake C n F tas G Q := h
theorem c_make {F : FS} {ρ : Type} {P : ρ → Unit → Prop} {as : List AV} {ds : List D} (rt : ρ → T) (e : avD as = some ds) (hn : ds.length + 1 = n) (hF : ∀ R : En → T → Prop, (∀ p r, P p r → R [some (rt p)] (.fz (eN r))) → F (.ins C [] :: ds.map .fz) R) (q : ∀ r, P r () → Q G (.t (rt r))) : CMk C n F Q G as :=
  withD_w e ⟨hn, hF _ fun p r h => ⟨rfl, q p h⟩⟩
/-! lists of owned lists -/
theorem sp_lenLL {α : Type} {e : α → D} {xs : List (List α)} (h : G[i]? = some (some (.ll (xs.map (tLs e))))) : SP (dLenLL (dVar i)) G (.t (.fz (D.int (xs.length : Int)))) := fun Q q => by
  refine (sp_var h trivial) _ ?_
  have ea : atE G i none = some (.ll (xs.map (tLs e))) := by unfold atE; rw [h]
  show (match atE G i none with | some (.ll ts) => Q G (.t (.fz (.int ts.length))) | _ => False)
  rw [ea]
  show Q G (.t (.fz (.int ((xs.map (tLs e)).length : Nat))))
  rw [List.length_map]; exact q
theorem sp_newLL {α : Type} (e : α → D) : SP dNewLL G (.t (.ll (([] : List (List α)).map (tLs e)))) := fun Q q => q
theorem ll_kid {α : Type} {e : α → D} {xs : List (List α)} {k : Int} (c : 0 ≤ k ∧ k < xs.length) : (xs.map (tLs e))[k.toNat]? = some (tLs e (gi xs k)) := by
  obtain ⟨n, rfl⟩ := Int.eq_ofNat_of_zero_le c.1
  have hn : n < xs.length := by omega
  have eg : gi xs (n : Int) = xs[n] := by
    unfold gi atI ixN
    rw [if_pos (by omega), if_pos (by omega)]
    simp [List.getElem?_eq_getElem hn]
  rw [Int.toNat_natCast, List.getElem?_map, List.getElem?_eq_getElem hn, eg]; rfl
theorem ix_nat {k : Int} {n : Nat} (c : 0 ≤ k ∧ k < n) : ixN n k = some k.toNat := by
  unfold ixN; rw [if_pos c.1, if_pos (by omega)]
theorem sp_kid {α : Type} {e : α → D} {xs : List (List α)} {k : Int} {tb : DTE} {vb : Vl} (h : G[i]? = some (some (.ll (xs.map (tLs e))))) (pb : SP tb G vb) (rb : RD G vb (.int k)) (c : 0 ≤ k ∧ k < xs.length) : SP (dKid (dVar i) tb) G (.pk i (some (.ix k.toNat))) := fun Q q => by
  unfold dKid
  refine (sp_var h trivial) _ (pb _ (rb.rd _ ?_))
  simp only [isI]
  rw [h]
  simp only [List.length_map]
  rw [ix_nat c]
  simp only
  rw [ll_kid c]
  exact q
theorem rd_kid {α : Type} {e : α → D} {xs : List (List α)} {k : Int} (h : G[i]? = some (some (.ll (xs.map (tLs e))))) (c : 0 ≤ k ∧ k < xs.length) : RD G (.pk i (some (.ix k.toNat))) (.lst ((gi xs k).map e)) := rd_pkx h (ll_kid c) rfl
def dcI : D → Int
  | .int i => i
  | _ => 0
def dcII : D → Int × Int
  | .tup [.int a, .int b] => (a, b)
  | _ => (0, 0)
theorem st_yes : ST dYes G true := fun Q q => q
theorem sp_lcQ {α β : Type} {ti : DTE} {g : DTG} {tt : DTT} {us : List Nat} {p : Nat} {s : Option Stp} {xs : List α} (e : α → D) (de : D → α) (hde : ∀ x, de (e x) = x) (pr : α → Bool) (f : α → β) (eb : β → D) (Gx : α → En) (hi : SP ti G (.pk p s)) (ha : atE G p s = some (.ls (xs.map e))) (hp : p ∉ us) (hl : xs.length ≤ 10000000)
    (hg : ∀ x ∈ xs, SG g (e x) (wipeE G us) (Gx x)) (hk : ∀ x, atE (Gx x) p s = atE G p s) (hw : ∀ x, wipeE (Gx x) us = wipeE G us) (ht : ∀ x ∈ xs, ST tt (Gx x) (pr x)) (he : ∀ x ∈ xs, pr x = true → SP te (Gx x) (.t (.fz (eb (f x))))) (hu : unwipe G (wipeE G us) us = G) :
    SP (dLcQ ti g tt te us) G (.t (.ls (((xs.filter pr).map f).map eb))) := fun Q q => by
  refine hi _ ⟨hp, ?_⟩
  rw [ha]
  refine ⟨by rw [List.length_map]; exact hl, fun d => pr (de d), fun d => eb (f (de d)), fun d hd => ?_, ?_⟩
  · obtain ⟨x, mx, rfl⟩ := List.mem_map.mp hd
    exact hg x mx _ ⟨(hk x).trans ha, hw x, ht x mx _ ⟨by show _ = pr (de (e x)); rw [hde], fun hb => he x mx hb _ (by show _ = Vl.t (.fz (eb (f (de (e x))))); rw [hde])⟩⟩
  · rw [hu]
    have : ((xs.map e).filter fun d => pr (de d)).map (fun d => eb (f (de d))) = ((xs.filter pr).map f).map eb := by
      rw [List.filter_map, List.map_map, List.map_map]
      have e1 : xs.filter ((fun d => pr (de d)) ∘ e) = xs.filter pr := List.filter_congr fun x _ => by simp [Function.comp, hde]
      rw [e1]
      exact List.map_congr_left fun x _ => by simp [Function.comp, hde]
    rw [this]; exact q
theorem sp_lcQ0 {α β : Type} {ti : DTE} {g : DTG} {us : List Nat} {p : Nat} {s : Option Stp} {xs : List α} (e : α → D) (de : D → α) (hde : ∀ x, de (e x) = x) (f : α → β) (eb : β → D) (Gx : α → En) (hi : SP ti G (.pk p s)) (ha : atE G p s = some (.ls (xs.map e))) (hp : p ∉ us) (hl : xs.length ≤ 10000000)
    (hg : ∀ x ∈ xs, SG g (e x) (wipeE G us) (Gx x)) (hk : ∀ x, atE (Gx x) p s = atE G p s) (hw : ∀ x, wipeE (Gx x) us = wipeE G us) (he : ∀ x ∈ xs, SP te (Gx x) (.t (.fz (eb (f x))))) (hu : unwipe G (wipeE G us) us = G) :
    SP (dLcQ ti g dYes te us) G (.t (.ls ((xs.map f).map eb))) := by
  have h := sp_lcQ (tt := dYes) (te := te) e de hde (fun _ => true) f eb Gx hi ha hp hl hg hk hw (fun x _ => st_yes) (fun x hx _ => he x hx) hu
  rwa [List.filter_eq_self.mpr fun _ _ => rfl] at h
theorem p_appNew {α : Type} {e : α → D} {xs : List (List α)} (h : G[i]? = some (some (.ll (xs.map (tLs e))))) (c : xs.length < 10000000) (eG : G.set i (some (.ll ((xs ++ [[]]).map (tLs e)))) = G') (q : u Ds G') : dSeq (dExpr (dAppNew (dVar i))) u Ds G := by
  refine q_seqx ?_
  refine (sp_var h trivial) _ ?_
  have ea : atE G i none = some (.ll (xs.map (tLs e))) := by unfold atE; rw [h]
  show (match atE G i none with | some (.ll ts) => ts.length < 10000000 ∧ _ | _ => False)
  rw [ea]
  refine ⟨by rw [List.length_map]; exact c, ?_⟩
  show u Ds (G.set i (some (.ll (xs.map (tLs e) ++ [.ls []]))))
  have : xs.map (tLs e) ++ [.ls []] = (xs ++ [[]]).map (tLs e) := by rw [List.map_append]; rfl
  rw [this, eG]; exact q
theorem p_appKid {α : Type} {e : α → D} {xs : List (List α)} {k : Int} {x : α} {tb : DTE} {vb : Vl} (h : G[i]? = some (some (.ll (xs.map (tLs e))))) (pb : SP tb G vb) (rb : RD G vb (.int k)) (c : 0 ≤ k ∧ k < xs.length) (sa : SA tas G [.d (e x)]) (cl : (gi xs k).length < 10000000)
    (eG : G.set i (some (.ll ((xs.set k.toNat (gi xs k ++ [x])).map (tLs e)))) = G') (q : u Ds G') : dSeq (dExpr (dMeth "list" appendN true (dKid (dVar i) tb) tas)) u Ds G := by
  refine q_seqx ?_
  refine (sp_kid h pb rb c) _ ?_
  have ea : atE G i (some (.ix k.toNat)) = some (tLs e (gi xs k)) := by unfold atE; rw [h]; exact ll_kid c
  refine ⟨⟨_, ea, rfl⟩, sa _ ⟨.inr rfl, withD_w (ds := [e x]) rfl ?_⟩⟩
  rw [ea]
  refine ⟨by rw [List.length_map]; exact cl, ?_⟩
  show u Ds (setE G i (some (.ix k.toNat)) (.ls ((gi xs k).map e ++ [e x])))
  have : setE G i (some (.ix k.toNat)) (.ls ((gi xs k).map e ++ [e x])) = G.set i (some (.ll ((xs.set k.toNat (gi xs k ++ [x])).map (tLs e)))) := by
    unfold setE; rw [h]
    show G.set i (some (.ll ((xs.map (tLs e)).set k.toNat (.ls ((gi xs k).map e ++ [e x]))))) = _
    rw [List.map_set]
    have : tLs e (gi xs k ++ [x]) = .ls ((gi xs k).map e ++ [e x]) := by show T.ls ((gi xs k ++ [x]).map e) = _; rw [List.map_append]; rfl
    rw [this]
  rw [this, eG]; exact q
end
end DL

namespace DL
open PySem PySem.Spec L2
/-- an instance of the class that searches for a knot of most places -/
structure Sr where
  beside : List (List (Int × Bool))
  best : List Int
abbrev Sr.T (x : Sr) (C : Addr) : T := .ins C [("beside", .fz (eL (eMI D.bl) x.beside)), ("best", .fz (eL D.int x.best))]
end DL
namespace DL
open PySem PySem.Spec L2
/-! data of any kind, read as of one -/
def isE {α : Type} (e : α → D) (x : D) : Prop := ∃ y, x = e y
noncomputable def dec {α : Type} [Inhabited α] (e : α → D) (x : D) : α := open Classical in if h : ∃ y, x = e y then Classical.choose h else default
theorem dec_eq {α : Type} [Inhabited α] {e : α → D} {x : D} (h : isE e x) : x = e (dec e x) := by
  have h' : ∃ y, x = e y := h
  unfold dec
  rw [dif_pos h']
  exact Classical.choose_spec h'
theorem dec_of {α : Type} [Inhabited α] {e : α → D} (inj : ∀ a b, e a = e b → a = b) (y : α) : dec e (e y) = y := (inj _ _ (dec_eq (e := e) ⟨y, rfl⟩)).symm
theorem int_inj (a b : Int) (h : D.int a = D.int b) : a = b := D.int.inj h
theorem tup_inj (a b : List D) (h : eU eD a = eU eD b) : a = b := by
  have := D.tup.inj h
  simpa using this
theorem lst_inj (a b : List D) (h : eL eD a = eL eD b) : a = b := by
  have := D.lst.inj h
  simpa using this
theorem eU_inj {α : Type} {e : α → D} (inj : ∀ a b, e a = e b → a = b) (a b : List α) (h : eU e a = eU e b) : a = b :=
  (List.map_inj_right inj).mp (D.tup.inj h)
theorem dcInt (i : Int) : dec D.int (.int i) = i := dec_of int_inj i
theorem dcTup (l : List D) : dec (eU eD) (.tup l) = l := by
  have := dec_of (e := eU eD) tup_inj l
  rw [show eU eD l = .tup l by simp [eU]] at this; exact this
theorem dcLst (l : List D) : dec (eL eD) (.lst l) = l := by
  have := dec_of (e := eL eD) lst_inj l
  rw [show eL eD l = .lst l by simp [eL]] at this; exact this
theorem dcInts (l : List Int) : dec (eU D.int) (.tup (l.map D.int)) = l := dec_of (e := eU D.int) (eU_inj int_inj) l
theorem isE_int (i : Int) : isE D.int (.int i) := ⟨i, rfl⟩
theorem isE_tup (l : List D) : isE (eU eD) (.tup l) := ⟨l, by simp [eU]⟩
theorem isE_lst (l : List D) : isE (eL eD) (.lst l) := ⟨l, by simp [eL]⟩
theorem isE_ints (l : List Int) : isE (eU D.int) (.tup (l.map D.int)) := ⟨l, rfl⟩
theorem k_isT {b : Bool} : ∀ R : T → Prop, R (.fz (.bl b)) → isBlD false (.bl b) (.bl true) R := fun R h => by
  show R (.fz (.bl (false != decide (b = true)))); cases b <;> exact h
theorem k_isF {b : Bool} : ∀ R : T → Prop, R (.fz (.bl (!b))) → isBlD false (.bl b) (.bl false) R := fun R h => by
  show R (.fz (.bl (false != decide (b = false)))); cases b <;> exact h
theorem k_isnT {b : Bool} : ∀ R : T → Prop, R (.fz (.bl (!b))) → isBlD true (.bl b) (.bl true) R := fun R h => by
  show R (.fz (.bl (true != decide (b = true)))); cases b <;> exact h
theorem k_isnF {b : Bool} : ∀ R : T → Prop, R (.fz (.bl b)) → isBlD true (.bl b) (.bl false) R := fun R h => by
  show R (.fz (.bl (true != decide (b = false)))); cases b <;> exact h
theorem pairsI_map {β : Type} {eb : β → D} : ∀ l : List (Int × β), pairsI (l.map (eP D.int eb)) = some (l.map fun p => (Sum.inl p.1, eb p.2))
  | [] => rfl
  | p :: r => by
    show (match keyOf (D.int p.1), pairsI (r.map (eP D.int eb)) with | some k, some m => some ((k, eb p.2) :: m) | _, _ => none) = _
    rw [pairsI_map r]; rfl
theorem k_dictI {β : Type} {eb : β → D} {l : List (Int × β)} (c : (l.map (·.1)).Nodup) : ∀ R : T → Prop, R (.dk (l.map fun p => (Sum.inl p.1, eb p.2))) → dictID [.lst (l.map (eP D.int eb))] R := fun R h => by
  show (match pairsI (l.map (eP D.int eb)) with | some m => (m.map (·.1)).Nodup ∧ R (.dk m) | none => False)
  rw [pairsI_map]
  refine ⟨?_, h⟩
  rw [List.map_map]
  have : ((fun x : Key × D => x.1) ∘ fun p : Int × β => ((Sum.inl p.1 : Key), eb p.2)) = (fun i : Int => (Sum.inl i : Key)) ∘ (·.1) := rfl
  rw [this, ← List.map_map]
  exact List.Pairwise.map _ (fun a b n e => n (Sum.inl.inj e)) c
theorem si_enumT {α : Type} {e : α → D} {tas : DTA} {G : En} {l : List α} (p : SA tas G [.d (.tup (l.map e))]) : SI (iEnumTD tas) G ((ienum l).map (eP D.int e)) := fun Q q => p _ (withD_w (ds := [.tup (l.map e)]) rfl (by
  show Q G (enumD 0 (l.map e))
  rw [enumD_map]; unfold ienum at q; rw [List.map_map] at q; exact q))
end DL

/-! The laws' pens. -/
namespace DL
open PySem PySem.Spec L2
structure PenN where
  c : List Int
  at_ : Int
  left : Int
abbrev PenN.T (p : PenN) : T := .ls [.scr p.c, .int p.at_, .int p.left]
structure Pen where
  m : Int
  t : Int
  w : List Int
abbrev Pen.T (p : Pen) : T := penM p.m p.t (p.w.map D.int)
structure NOk (p : PenN) : Prop where
  at0 : 0 ≤ p.at_
  left0 : 0 ≤ p.left
/-- a sound pen, c draws at most so far -/
structure POk (p : Pen) (c : Nat) : Prop where
  m0 : 0 ≤ p.m
  m1 : p.m < 2147483629
  t0 : 0 ≤ p.t
  tc : p.t ≤ c
  w0 : ∀ x ∈ p.w, 0 ≤ x
theorem POk.up {p : Pen} {c c' : Nat} (h : POk p c) (hc : c ≤ c') : POk p c' := ⟨h.m0, h.m1, h.t0, Int.le_trans h.tc (Int.ofNat_le.mpr hc), h.w0⟩
def w__law_next (p : PenN) (m : Int) (Q : PenN → Int → Prop) : Prop := NOk p ∧ 0 < m ∧ m < 2 ^ 62 ∧ ∀ p' x, NOk p' → 0 ≤ x → x < m → Q p' x
def w__law_tdraw (p : Pen) (m : Int) (Q : Pen → Int → Prop) : Prop := ∃ c : Nat, POk p c ∧ c < 2 ^ 60 ∧ 0 < m ∧ m < 2 ^ 62 ∧ ∀ p' x, POk p' (c + 1) → 0 ≤ x → x < m → Q p' x
def w__law_tpen (s : List Int) (Q : Pen → Prop) : Prop := s.length ≤ 63 ∧ ∀ p, POk p 0 → Q p
def w__law_fill (c a : Int) (Q : Int → Prop) : Prop := 0 ≤ a ∧ ∀ x : Int, 0 ≤ x → Q x
theorem drawN {p : PenN} {m : Int} {Q : PenN → Int → Prop} (hp : NOk p) (h1 : 0 < m) (h2 : m < 2 ^ 62) (h : ∀ p x, NOk p → 0 ≤ x → x < m → Q p x) : w__law_next p m Q := ⟨hp, h1, h2, h⟩
theorem drawM {p : Pen} {m : Int} {c : Nat} {Q : Pen → Int → Prop} (hp : POk p c) (hc : c < 2 ^ 60) (h1 : 0 < m) (h2 : m < 2 ^ 62) (h : ∀ p x, POk p (c + 1) → 0 ≤ x → x < m → Q p x) : w__law_tdraw p m Q := ⟨c, hp, hc, h1, h2, h⟩
def F__law_fill : FS := fun ts R => ∃ c a : Int, ts = [.fz (.int c), .fz (.int a)] ∧ 0 ≤ a ∧ ∀ x : Int, 0 ≤ x → R [] (.fz (.int x))
def F__law_next : FS := fun ts R => ∃ (p : PenN) (m : Int) (P : PenN → Int → Prop), ts = [p.T, .fz (.int m)] ∧ w__law_next p m P ∧ ∀ (p_ : PenN) (r : Int), P p_ r → R [some p_.T] (.fz (.int r))
def F__law_tdraw : FS := fun ts R => ∃ (p : Pen) (m : Int) (P : Pen → Int → Prop), ts = [p.T, .fz (.int m)] ∧ w__law_tdraw p m P ∧ ∀ (p_ : Pen) (r : Int), P p_ r → R [some p_.T] (.fz (.int r))
def F__law_tpen : FS := fun ts R => ∃ (s : List Int) (P : Pen → Prop), ts = [.fz (.scr s)] ∧ w__law_tpen s P ∧ ∀ r : Pen, P r → R [] r.T
/-- what is looked through at most k deep: no dict, no script, no kind -/
def plainD : Nat → D → Prop
  | _, .non => True
  | _, .bl _ => True
  | _, .int _ => True
  | _, .str x => (D.str x).shp
  | k + 1, .tup l => l.length ≤ 5000 ∧ ∀ d ∈ l, plainD k d
  | k + 1, .lst l => l.length ≤ 5000 ∧ ∀ d ∈ l, plainD k d
  | _, _ => False
def sameT (_ _ : D) : Bool := true
def sameP (x y : D) : Prop := x = y ∧ plainD 4 x
end DL

/-! Webs, typed. -/
namespace DL
open PySem PySem.Spec L2
abbrev Web := Int × List (Int × Int)
theorem nodup_sub_len {α : Type} [DecidableEq α] : ∀ (a b : List α), a.Nodup → (∀ x ∈ a, x ∈ b) → a.length ≤ b.length
  | [], _, _, _ => Nat.zero_le _
  | x :: r, b, nd, h => by
    obtain ⟨h1, h2⟩ := List.nodup_cons.mp nd
    have ih := nodup_sub_len r (b.erase x) h2 fun y m => (List.mem_erase_of_ne (fun e => by subst e; exact h1 m)).mpr (h y (by simp [m]))
    have hx : x ∈ b := h x (by simp)
    rw [List.length_erase_of_mem hx] at ih
    have : 0 < b.length := List.length_pos_of_mem hx
    simp only [List.length_cons]; omega
theorem irange_nodup (lo hi : Int) : (irange lo hi).Nodup := by
  unfold irange
  exact List.Pairwise.map _ (fun a b n e => n (by omega)) List.nodup_range
theorem irange_sorted (lo hi : Int) : (irange lo hi).Pairwise (· < ·) := by
  unfold irange
  refine List.Pairwise.map _ (fun a b h => ?_) List.pairwise_lt_range
  omega
def ltP (a b : Int × Int) : Prop := a.1 < b.1 ∨ (a.1 = b.1 ∧ a.2 < b.2)
def pairsN (n : Int) : List (Int × Int) := (irange 0 n).flatMap fun a => (irange (a + 1) n).map fun b => (a, b)
theorem mem_pairsN {n : Int} {p : Int × Int} : p ∈ pairsN n ↔ 0 ≤ p.1 ∧ p.1 < p.2 ∧ p.2 < n := by
  unfold pairsN
  rw [List.mem_flatMap]
  constructor
  · rintro ⟨a, ha, hp⟩
    obtain ⟨b, hb, rfl⟩ := List.mem_map.mp hp
    have h1 := mem_irange.mp ha; have h2 := mem_irange.mp hb
    exact ⟨h1.1, by show a < b; omega, h2.2⟩
  · rintro ⟨h1, h2, h3⟩
    exact ⟨p.1, mem_irange.mpr ⟨h1, by omega⟩, List.mem_map.mpr ⟨p.2, mem_irange.mpr ⟨by omega, h3⟩, rfl⟩⟩
theorem flat_sorted {n : Int} {l : List Int} (f : Int → List Int) (hl : l.Pairwise (· < ·)) (hf : ∀ a ∈ l, (f a).Pairwise (· < ·)) : (l.flatMap fun a => (f a).map fun b => (a, b)).Pairwise ltP := by
  induction l with
  | nil => exact .nil
  | cons a r ih =>
    rw [List.flatMap_cons]
    obtain ⟨h1, h2⟩ := List.pairwise_cons.mp hl
    refine List.pairwise_append.mpr ⟨?_, ih h2 (fun x hx => hf x (by simp [hx])), ?_⟩
    · exact List.Pairwise.map _ (fun x y h => .inr ⟨rfl, h⟩) (hf a (by simp))
    · rintro p hp q hq
      obtain ⟨b, _, rfl⟩ := List.mem_map.mp hp
      obtain ⟨c, hc, hq⟩ := List.mem_flatMap.mp hq
      obtain ⟨d, _, rfl⟩ := List.mem_map.mp hq
      exact .inl (h1 c hc)
theorem pairsN_sorted (n : Int) : (pairsN n).Pairwise ltP := flat_sorted (n := n) (fun a => irange (a + 1) n) (irange_sorted 0 n) fun a _ => irange_sorted _ _
theorem ltP_irrefl (a : Int × Int) : ¬ ltP a a := by unfold ltP; omega
theorem sorted_nodup {l : List (Int × Int)} (h : l.Pairwise ltP) : l.Nodup := h.imp fun {a b} hab => by
  intro e
  subst e
  exact ltP_irrefl a hab
theorem sorted_ext {l m : List (Int × Int)} (hl : l.Pairwise ltP) (hm : m.Pairwise ltP) (h : ∀ p, p ∈ l ↔ p ∈ m) : l = m :=
  List.Perm.eq_of_pairwise (fun a b _ _ h1 h2 => by unfold ltP at h1 h2; omega) hl hm ((List.perm_ext_iff_of_nodup (sorted_nodup hl) (sorted_nodup hm)).mpr h)
theorem sortP_nodup {l : List (Int × Int)} (h : l.Nodup) : (sortP l).Pairwise ltP := by
  have h1 := sortP_sorted l
  have h2 : (sortP l).Nodup := (sortP_perm l).nodup_iff.mpr h
  refine (h1.and h2).imp fun {a b} h => ?_
  have hne : ¬ (a.1 = b.1 ∧ a.2 = b.2) := fun e => h.2 (Prod.ext e.1 e.2)
  have := h.1
  unfold leP at this; unfold ltP; omega
theorem sortP_eq {l m : List (Int × Int)} (hl : l.Nodup) (hm : m.Pairwise ltP) (h : ∀ p, p ∈ l ↔ p ∈ m) : sortP l = m :=
  sorted_ext (sortP_nodup hl) hm fun p => by rw [(sortP_perm l).mem_iff]; exact h p
theorem sortP_id {l : List (Int × Int)} (h : l.Pairwise ltP) : sortP l = l := sortP_eq (sorted_nodup h) h fun _ => Iff.rfl
theorem sortI_eq {l m : List Int} (hl : l.Nodup) (hm : m.Pairwise (· < ·)) (h : ∀ p, p ∈ l ↔ p ∈ m) : sortI l = m := by
  refine (sortI_of ?_ (hm.imp fun h => by omega)).symm
  exact (List.perm_ext_iff_of_nodup (hm.imp fun h => by omega) hl).mpr fun p => (h p).symm
structure IsWeb (w : Web) : Prop where
  n0 : 0 ≤ w.1
  mem : ∀ p ∈ w.2, 0 ≤ p.1 ∧ p.1 < p.2 ∧ p.2 < w.1
  srt : w.2.Pairwise ltP
/-- the web of n places whose ties are those that r tells -/
def mkW (n : Int) (r : Int → Int → Bool) : Web := (n, (pairsN n).filter fun p => r p.1 p.2)
theorem mem_mkW {n : Int} {r : Int → Int → Bool} {p : Int × Int} : p ∈ (mkW n r).2 ↔ (0 ≤ p.1 ∧ p.1 < p.2 ∧ p.2 < n) ∧ r p.1 p.2 = true := by
  show p ∈ List.filter _ _ ↔ _
  rw [List.mem_filter, mem_pairsN]
theorem mkW_web {n : Int} (h : 0 ≤ n) (r : Int → Int → Bool) : IsWeb (mkW n r) := ⟨h, fun p m => (mem_mkW.mp m).1, List.Pairwise.filter _ (pairsN_sorted n)⟩
theorem web_ext {a b : Web} (ha : IsWeb a) (hb : IsWeb b) (hn : a.1 = b.1) (h : ∀ i j, 0 ≤ i → i < j → j < a.1 → ((i, j) ∈ a.2 ↔ (i, j) ∈ b.2)) : a = b := by
  refine Prod.ext hn (sorted_ext ha.srt hb.srt fun p => ⟨fun m => ?_, fun m => ?_⟩)
  · have := ha.mem p m; exact (h p.1 p.2 this.1 this.2.1 this.2.2).mp m
  · have := hb.mem p m; exact (h p.1 p.2 this.1 this.2.1 (by omega)).mpr m
theorem mkW_congr {n : Int} {r s : Int → Int → Bool} (h : ∀ i j, 0 ≤ i → i < j → j < n → r i j = s i j) : mkW n r = mkW n s := by
  refine Prod.ext rfl ?_
  show List.filter _ _ = List.filter _ _
  refine List.filter_congr fun p m => ?_
  have := mem_pairsN.mp m
  exact h _ _ this.1 this.2.1 this.2.2
/-- a web by its ties -/
theorem web_mk {w : Web} (h : IsWeb w) : w = mkW w.1 fun a b => inl (a, b) w.2 :=
  web_ext h (mkW_web h.n0 _) rfl fun i j h1 h2 h3 => by rw [mem_mkW, inl_iff]; exact ⟨fun m => ⟨⟨h1, h2, h3⟩, m⟩, fun m => m.2⟩
theorem web_eq_mk {w : Web} {n : Int} {r : Int → Int → Bool} (h : IsWeb w) (hn : w.1 = n) (hr : ∀ i j, 0 ≤ i → i < j → j < n → ((i, j) ∈ w.2 ↔ r i j = true)) : w = mkW n r :=
  web_ext h (mkW_web (hn ▸ h.n0) _) hn fun i j h1 h2 h3 => by
    rw [mem_mkW]
    exact ⟨fun m => ⟨⟨h1, h2, by show j < n; omega⟩, (hr i j h1 h2 (by omega)).mp m⟩, fun m => (hr i j h1 h2 (by omega)).mpr m.2⟩
theorem sort_mk {l : List (Int × Int)} {n : Int} {r : Int → Int → Bool} (hl : l.Nodup) (h : ∀ p, p ∈ l ↔ (0 ≤ p.1 ∧ p.1 < p.2 ∧ p.2 < n) ∧ r p.1 p.2 = true) : sortP l = (mkW n r).2 :=
  sortP_eq hl (List.Pairwise.filter _ (pairsN_sorted n)) fun p => (h p).trans mem_mkW.symm
/-- whether two places are tied -/
def tie (w : Web) (a b : Int) : Bool := inl (min a b, max a b) w.2
theorem tie_comm (w : Web) (a b : Int) : tie w a b = tie w b a := by unfold tie; rw [Int.min_comm, Int.max_comm]
theorem tie_lt {w : Web} {a b : Int} (h : a ≤ b) : tie w a b = inl (a, b) w.2 := by unfold tie; rw [Int.min_eq_left h, Int.max_eq_right h]
theorem tie_mem {w : Web} {a b : Int} (h : a < b) : tie w a b = true ↔ (a, b) ∈ w.2 := by rw [tie_lt (Int.le_of_lt h), inl_iff]
theorem tie_self {w : Web} (h : IsWeb w) (a : Int) : tie w a a = false := by
  rw [tie_lt (Int.le_refl _), inl_not]
  intro m; have := h.mem _ m; exact absurd this.2.1 (Int.lt_irrefl _)
theorem tie_rng {w : Web} (h : IsWeb w) {a b : Int} (t : tie w a b = true) : 0 ≤ a ∧ a < w.1 ∧ 0 ≤ b ∧ b < w.1 ∧ a ≠ b := by
  unfold tie at t
  rw [inl_iff] at t
  have := h.mem _ t
  dsimp only at this
  omega
theorem tie_mk {n : Int} {r : Int → Int → Bool} {a b : Int} (ha : 0 ≤ a) (hb : b < n) (h : a < b) : tie (mkW n r) a b = r a b := by
  rw [Bool.eq_iff_iff, tie_mem h, mem_mkW]
  exact ⟨fun m => m.2, fun m => ⟨⟨ha, h, hb⟩, m⟩⟩
/-- .. where the relation is symmetric -/
theorem tie_mk' {n : Int} {r : Int → Int → Bool} (hs : ∀ a b, r a b = r b a) {a b : Int} (ha : 0 ≤ a) (hb : 0 ≤ b) (ha' : a < n) (hb' : b < n) (h : a ≠ b) : tie (mkW n r) a b = r a b := by
  rcases Int.lt_or_gt_of_ne h with h | h
  · exact tie_mk ha hb' h
  · rw [tie_comm, tie_mk hb ha' h, hs]
theorem web_len {w : Web} (h : IsWeb w) : w.2.length ≤ (w.1.toNat) * (w.1.toNat) := by
  have h1 : w.2.Sublist (pairsN w.1) := by
    have := web_mk h
    have e : w.2 = (mkW w.1 fun a b => inl (a, b) w.2).2 := congrArg (·.2) this
    rw [e]; exact List.filter_sublist
  refine Nat.le_trans h1.length_le ?_
  unfold pairsN
  rw [List.length_flatMap]
  have : ∀ l : List Int, (∀ a ∈ l, 0 ≤ a) → (l.map fun a => ((irange (a + 1) w.1).map fun b => (a, b)).length).sum ≤ l.length * w.1.toNat := fun l => by
    induction l with
    | nil => intro _; simp
    | cons a r ih =>
      intro hl
      have h1 := ih fun x hx => hl x (by simp [hx])
      have h2 := hl a (by simp)
      rw [List.map_cons, List.sum_cons, List.length_map, irange_length, List.length_cons, Nat.add_mul]
      omega
  refine Nat.le_trans (this _ fun a ha => (mem_irange.mp ha).1) ?_
  rw [irange_length, Int.sub_zero]
  exact Nat.le_refl _
theorem web_len24 {w : Web} (h : IsWeb w) (hn : w.1 ≤ 24) : w.2.length ≤ 576 := by
  have h1 := web_len h
  have h2 : w.1.toNat ≤ 24 := by omega
  exact Nat.le_trans h1 (Nat.mul_le_mul h2 h2)
/-! ties gathered row by row -/
theorem pairsN_rows (n : Int) (r : Int → Int → Bool) : (mkW n r).2 = (irange 0 n).flatMap fun a => ((irange (a + 1) n).filter fun b => r a b).map fun b => (a, b) := by
  show List.filter _ (pairsN n) = _
  unfold pairsN
  rw [List.filter_flatMap]
  congr 1
  funext a
  rw [List.filter_map]; rfl
theorem irange_snoc {lo hi : Int} (h : lo ≤ hi) : irange lo (hi + 1) = irange lo hi ++ [hi] := by
  unfold irange
  rw [show (hi + 1 - lo).toNat = (hi - lo).toNat + 1 by omega, List.range_succ, List.map_append]
  congr 1
  simp only [List.map_cons, List.map_nil]
  rw [show lo + (((hi - lo).toNat : Nat) : Int) = hi by omega]
/-- the rows up to a -/
def rowsTo (n : Int) (r : Int → Int → Bool) (a : Int) : List (Int × Int) := (irange 0 a).flatMap fun a => ((irange (a + 1) n).filter fun b => r a b).map fun b => (a, b)
theorem rowsTo_0 (n : Int) (r : Int → Int → Bool) : rowsTo n r 0 = [] := by unfold rowsTo; rw [irange_nil (Int.le_refl _)]; rfl
theorem rowsTo_n (n : Int) (r : Int → Int → Bool) : rowsTo n r n = (mkW n r).2 := by rw [pairsN_rows]; rfl
theorem rowsTo_snoc {n a : Int} (r : Int → Int → Bool) (h : 0 ≤ a) : rowsTo n r (a + 1) = rowsTo n r a ++ ((irange (a + 1) n).filter fun b => r a b).map fun b => (a, b) := by
  unfold rowsTo; rw [irange_snoc h, List.flatMap_append]; simp
theorem rowsTo_len {n a : Int} (r : Int → Int → Bool) (h : 0 ≤ a) (han : a ≤ n) : (rowsTo n r a).length ≤ a.toNat * n.toNat := by
  unfold rowsTo
  rw [List.length_flatMap]
  have : ∀ l : List Int, (∀ a ∈ l, 0 ≤ a) → (l.map fun a => (((irange (a + 1) n).filter fun b => r a b).map fun b => (a, b)).length).sum ≤ l.length * n.toNat := fun l => by
    induction l with
    | nil => intro _; simp
    | cons a r' ih =>
      intro hl
      have h1 := ih fun x hx => hl x (by simp [hx])
      have h2 := hl a (by simp)
      have h3 := List.length_filter_le (fun b => r a b) (irange (a + 1) n)
      rw [irange_length] at h3
      rw [List.map_cons, List.sum_cons, List.length_map, List.length_cons, Nat.add_mul]
      omega
  refine Nat.le_trans (this _ fun a ha => (mem_irange.mp ha).1) ?_
  rw [irange_length, Int.sub_zero]
  exact Nat.le_refl _
/-- within row a, up to b -/
def rowTo (r : Int → Int → Bool) (a b : Int) : List (Int × Int) := ((irange (a + 1) b).filter fun b => r a b).map fun b => (a, b)
theorem rowTo_0 (r : Int → Int → Bool) (a : Int) : rowTo r a (a + 1) = [] := by unfold rowTo; rw [irange_nil (Int.le_refl _)]; rfl
theorem rowTo_yes {r : Int → Int → Bool} {a b : Int} (h : a < b) (hr : r a b = true) : rowTo r a (b + 1) = rowTo r a b ++ [(a, b)] := by
  unfold rowTo; rw [irange_snoc (by omega), List.filter_append]; simp [hr]
theorem rowTo_no {r : Int → Int → Bool} {a b : Int} (h : a < b) (hr : r a b = false) : rowTo r a (b + 1) = rowTo r a b := by
  unfold rowTo; rw [irange_snoc (by omega), List.filter_append]; simp [hr]
theorem rowTo_len {r : Int → Int → Bool} {a b : Int} : (rowTo r a b).length ≤ (b - (a + 1)).toNat := by
  unfold rowTo
  rw [List.length_map]
  have h3 := List.length_filter_le (fun b => r a b) (irange (a + 1) b)
  rw [irange_length] at h3; exact h3
/-! ties gathered column by column -/
def colsTo (r : Int → Int → Bool) (j : Int) : List (Int × Int) := (irange 0 j).flatMap fun j => ((irange 0 j).filter fun i => r i j).map fun i => (i, j)
def colTo (r : Int → Int → Bool) (j i : Int) : List (Int × Int) := ((irange 0 i).filter fun i => r i j).map fun i => (i, j)
theorem colsTo_0 (r : Int → Int → Bool) : colsTo r 0 = [] := by unfold colsTo; rw [irange_nil (Int.le_refl _)]; rfl
theorem colTo_0 (r : Int → Int → Bool) (j : Int) : colTo r j 0 = [] := by unfold colTo; rw [irange_nil (Int.le_refl _)]; rfl
theorem colsTo_snoc {r : Int → Int → Bool} {j : Int} (h : 0 ≤ j) : colsTo r (j + 1) = colsTo r j ++ colTo r j j := by
  unfold colsTo colTo; rw [irange_snoc h, List.flatMap_append]; simp
theorem colTo_yes {r : Int → Int → Bool} {j i : Int} (h : 0 ≤ i) (hr : r i j = true) : colTo r j (i + 1) = colTo r j i ++ [(i, j)] := by
  unfold colTo; rw [irange_snoc h, List.filter_append]; simp [hr]
theorem colTo_no {r : Int → Int → Bool} {j i : Int} (h : 0 ≤ i) (hr : r i j = false) : colTo r j (i + 1) = colTo r j i := by
  unfold colTo; rw [irange_snoc h, List.filter_append]; simp [hr]
theorem colTo_len {r : Int → Int → Bool} {j i : Int} (h : 0 ≤ i) : (colTo r j i).length ≤ i.toNat := by
  unfold colTo
  rw [List.length_map]
  have h3 := List.length_filter_le (fun i => r i j) (irange 0 i)
  rw [irange_length] at h3; omega
theorem colsTo_len {r : Int → Int → Bool} {j : Int} (h : 0 ≤ j) : (colsTo r j).length ≤ j.toNat * j.toNat := by
  unfold colsTo
  rw [List.length_flatMap]
  have : ∀ l : List Int, (∀ a ∈ l, 0 ≤ a ∧ a < j) → (l.map fun a => (((irange 0 a).filter fun i => r i a).map fun i => (i, a)).length).sum ≤ l.length * j.toNat := fun l => by
    induction l with
    | nil => intro _; simp
    | cons a r' ih =>
      intro hl
      have h1 := ih fun x hx => hl x (by simp [hx])
      have h2 := hl a (by simp)
      have h3 := List.length_filter_le (fun i => r i a) (irange 0 a)
      rw [irange_length] at h3
      rw [List.map_cons, List.sum_cons, List.length_map, List.length_cons, Nat.add_mul]
      omega
  refine Nat.le_trans (this _ fun a ha => mem_irange.mp ha) ?_
  rw [irange_length, Int.sub_zero]
  exact Nat.le_refl _
theorem mem_colsTo {r : Int → Int → Bool} {n : Int} {p : Int × Int} : p ∈ colsTo r n ↔ (0 ≤ p.1 ∧ p.1 < p.2 ∧ p.2 < n) ∧ r p.1 p.2 = true := by
  unfold colsTo
  rw [List.mem_flatMap]
  constructor
  · rintro ⟨j, hj, h⟩
    obtain ⟨i, hi, rfl⟩ := List.mem_map.mp h
    obtain ⟨h1, h2⟩ := List.mem_filter.mp hi
    have h3 := mem_irange.mp hj; have h4 := mem_irange.mp h1
    exact ⟨⟨h4.1, h4.2, h3.2⟩, h2⟩
  · rintro ⟨⟨h1, h2, h3⟩, h4⟩
    exact ⟨p.2, mem_irange.mpr ⟨by omega, h3⟩, List.mem_map.mpr ⟨p.1, List.mem_filter.mpr ⟨mem_irange.mpr ⟨h1, h2⟩, h4⟩, rfl⟩⟩
theorem colsTo_nodup (r : Int → Int → Bool) (n : Int) : (colsTo r n).Nodup := by
  unfold colsTo
  have gen : ∀ l : List Int, l.Nodup → (l.flatMap fun j => ((irange 0 j).filter fun i => r i j).map fun i => (i, j)).Nodup := fun l => by
   induction l with
   | nil => intro _; exact .nil
   | cons a l ih =>
    intro hl
    obtain ⟨h1, h2⟩ := List.nodup_cons.mp hl
    rw [List.flatMap_cons]
    refine List.nodup_append.mpr ⟨?_, ih h2, fun x hx y hy e => ?_⟩
    · exact List.pairwise_map.mpr (((irange_nodup 0 a).filter _).imp fun h e => h (Prod.mk.inj e).1)
    · subst e
      obtain ⟨i, _, rfl⟩ := List.mem_map.mp hx
      obtain ⟨b, hb, h⟩ := List.mem_flatMap.mp hy
      obtain ⟨i', _, e⟩ := List.mem_map.mp h
      exact h1 ((Prod.mk.inj e).2 ▸ hb)
  exact gen _ (irange_nodup 0 n)
theorem sort_cols {r : Int → Int → Bool} {n : Int} (h : 0 ≤ n) : sortP (colsTo r n) = (mkW n r).2 := sort_mk (colsTo_nodup r n) fun _ => mem_colsTo
theorem rows_web {n : Int} {l : List (Int × Int)} (h0 : 0 ≤ n) (h : l.Sublist (pairsN n)) : IsWeb (n, l) := ⟨h0, fun p m => mem_pairsN.mp (h.subset m), (pairsN_sorted n).sublist h⟩
/-! what may be shown, compared -/
theorem fine_i {i : Int} (h0 : 0 ≤ i) (h : i < 100) : Fine (.int i) 0 2 := by
  obtain ⟨n, rfl⟩ := Int.eq_ofNat_of_zero_le h0
  exact fine_int (by omega)
theorem fine_pairs {l : List (Int × Int)} (h : ∀ p ∈ l, 0 ≤ p.1 ∧ p.1 < 100 ∧ 0 ≤ p.2 ∧ p.2 < 100) : Fine (eU (eP D.int D.int) l) 2 (l.length * 13 + 3) := by
  refine (fine_tup (k := 1) (c := 11) fun d hd => ?_).mono (Nat.le_refl _) (by rw [List.length_map]; omega)
  obtain ⟨p, hp, rfl⟩ := List.mem_map.mp hd
  have hh := h p hp
  refine (fine_tup (k := 0) (c := 2) fun d hd => ?_).mono (Nat.le_refl _) (by simp)
  rcases List.mem_cons.mp hd with rfl | hd
  · exact fine_i hh.1 hh.2.1
  · rw [List.mem_singleton.mp hd]; exact fine_i hh.2.2.1 hh.2.2.2
abbrev eW : Web → D := eP D.int (eU (eP D.int D.int))
theorem fine_web {w : Web} (h : IsWeb w) (hn : w.1 < 60) : Fine (eW w) 3 200000 := by
  have h0 := h.n0
  have hl := web_len h
  have hl2 : w.1.toNat * w.1.toNat ≤ 60 * 60 := Nat.mul_le_mul (by omega) (by omega)
  refine (fine_tup (k := 2) (c := 50000) fun d hd => ?_).mono (Nat.le_refl _) (by simp)
  rcases List.mem_cons.mp hd with rfl | hd
  · exact (fine_i h0 (by omega)).mono (by omega) (by omega)
  · rw [List.mem_singleton.mp hd]
    refine (fine_pairs fun p hp => ?_).mono (Nat.le_refl _) (by omega)
    have := h.mem p hp
    omega
theorem shw_web {w : Web} (h : IsWeb w) (hn : w.1 < 60) : (eW w).shw := (fine_web h hn).shw (by omega) (by omega)
theorem sshp_web {w : Web} (h : IsWeb w) (hn : w.1 < 60) : (D.str (eW w).py.shown).shp := (fine_web h hn).sshp
theorem plain_web (w : Web) (hl : w.2.length ≤ 5000) : plainD 4 (eW w) := by
  refine ⟨by simp, fun d hd => ?_⟩
  rcases List.mem_cons.mp hd with rfl | hd
  · exact trivial
  · rw [List.mem_singleton.mp hd]
    refine ⟨by rw [List.length_map]; exact hl, fun d hd => ?_⟩
    obtain ⟨p, _, rfl⟩ := List.mem_map.mp hd
    refine ⟨by simp, fun d hd => ?_⟩
    rcases List.mem_cons.mp hd with rfl | hd
    · exact trivial
    · rw [List.mem_singleton.mp hd]; exact trivial
end DL

/-! Webs put together. -/
namespace DL
open PySem PySem.Spec L2
/-! lists -/
theorem gi_nat {α : Type} [Inhabited α] {l : List α} {k : Nat} (h : k < l.length) : gi l (k : Int) = l[k] := by
  unfold gi atI ixN
  rw [if_pos (by omega), if_pos (by omega)]
  show (l[((k : Int)).toNat]?).getD default = _
  rw [Int.toNat_natCast, List.getElem?_eq_getElem h]; rfl
theorem gi_int {α : Type} [Inhabited α] {l : List α} {i : Int} (h0 : 0 ≤ i) (h : i < l.length) : gi l i = l[i.toNat]'(by omega) := by
  obtain ⟨k, rfl⟩ := Int.eq_ofNat_of_zero_le h0
  exact gi_nat (by omega)
theorem gi_mem {α : Type} [Inhabited α] {l : List α} {i : Int} (h0 : 0 ≤ i) (h : i < l.length) : gi l i ∈ l := by rw [gi_int h0 h]; exact List.getElem_mem _
theorem gi_map {α β : Type} [Inhabited α] [Inhabited β] (f : α → β) {l : List α} {i : Int} (h0 : 0 ≤ i) (h : i < l.length) : gi (l.map f) i = f (gi l i) := by
  rw [gi_int h0 (by rw [List.length_map]; exact h), gi_int h0 h, List.getElem_map]
theorem gi_last {α : Type} [Inhabited α] (l : List α) (x : α) : gi (l ++ [x]) (-1) = x := by
  unfold gi atI ixN
  rw [if_neg (by omega), if_pos (by simp; omega)]
  show (((l ++ [x])[(-1 + ((l ++ [x]).length : Int)).toNat]?).getD default) = x
  have : (-1 + ((l ++ [x]).length : Int)).toNat = l.length := by simp; omega
  rw [this]; simp
theorem gi_append_left {α : Type} [Inhabited α] {l m : List α} {i : Int} (h0 : 0 ≤ i) (h : i < l.length) : gi (l ++ m) i = gi l i := by
  rw [gi_int h0 (by rw [List.length_append]; omega), gi_int h0 h, List.getElem_append_left]
theorem gi_append_right {α : Type} [Inhabited α] {l m : List α} {i : Int} (h0 : (l.length : Int) ≤ i) (h : i < l.length + m.length) : gi (l ++ m) i = gi m (i - l.length) := by
  rw [gi_int (by omega) (by rw [List.length_append]; omega), gi_int (by omega) (by omega), List.getElem_append_right (by omega)]
  congr 1
  omega
theorem inR {α : Type} {l : List α} {i : Int} (h0 : 0 ≤ i) (h : i < l.length) : InR l i := ⟨by omega, h⟩
theorem mem_ienum {α : Type} [Inhabited α] {l : List α} {p : Int × α} : p ∈ ienum l ↔ 0 ≤ p.1 ∧ p.1 < l.length ∧ gi l p.1 = p.2 := by
  unfold ienum
  rw [List.mem_map]
  constructor
  · rintro ⟨⟨a, i⟩, h, rfl⟩
    rw [List.mem_zipIdx_iff_getElem?] at h
    obtain ⟨h1, h2⟩ := List.getElem?_eq_some_iff.mp h
    exact ⟨by show (0 : Int) ≤ (i : Int); omega, by show (i : Int) < _; omega, by show gi l (i : Int) = a; rw [gi_nat h1]; exact h2⟩
  · rintro ⟨h1, h2, h3⟩
    refine ⟨(p.2, p.1.toNat), ?_, Prod.ext (by show ((p.1.toNat : Nat) : Int) = p.1; omega) rfl⟩
    rw [List.mem_zipIdx_iff_getElem?]
    show l[p.1.toNat]? = some p.2
    rw [List.getElem?_eq_getElem (by omega), ← h3, gi_int h1 h2]
theorem ienum_length {α : Type} (l : List α) : (ienum l).length = l.length := by unfold ienum; simp
theorem ienum_fst {α : Type} (l : List α) : (ienum l).map (·.1) = irange 0 l.length := by
  unfold ienum irange
  rw [List.map_map, Int.sub_zero, Int.toNat_natCast]
  have : ((fun x : Int × α => x.1) ∘ fun p : α × Nat => ((p.2 : Int), p.1)) = (fun n : Nat => (n : Int)) ∘ (·.2) := rfl
  rw [this, ← List.map_map, List.zipIdx_map_snd, ← List.range_eq_range']
  exact List.map_congr_left fun i _ => by omega
theorem ienum_nodup {α : Type} (l : List α) : (ienum l).Nodup := by
  have h := irange_nodup 0 (l.length : Int)
  rw [← ienum_fst l] at h
  exact List.Pairwise.of_map (·.1) (fun a b hne e => hne (by rw [e])) h
theorem ienum_snoc {α : Type} (l : List α) (x : α) : ienum (l ++ [x]) = ienum l ++ [((l.length : Int), x)] := by
  unfold ienum
  rw [List.zipIdx_append, List.map_append]
  simp
theorem flatMap_nodup {α β : Type} {l : List α} {f : α → List β} (hl : l.Nodup) (hf : ∀ a ∈ l, (f a).Nodup) (hd : ∀ a ∈ l, ∀ b ∈ l, a ≠ b → ∀ x ∈ f a, x ∉ f b) : (l.flatMap f).Nodup := by
  induction l with
  | nil => exact .nil
  | cons a r ih =>
    rw [List.flatMap_cons]
    obtain ⟨h1, h2⟩ := List.nodup_cons.mp hl
    refine List.nodup_append.mpr ⟨hf a (by simp), ih h2 (fun x hx => hf x (by simp [hx])) (fun x hx y hy => hd x (by simp [hx]) y (by simp [hy])), fun x hx y hy e => ?_⟩
    subst e
    obtain ⟨b, hb, hxb⟩ := List.mem_flatMap.mp hy
    exact hd a (by simp) b (by simp [hb]) (fun e => h1 (e ▸ hb)) x hx hxb
theorem map_nodup {α β : Type} {l : List α} {f : α → β} (hl : l.Nodup) (hf : ∀ a ∈ l, ∀ b ∈ l, f a = f b → a = b) : (l.map f).Nodup :=
  List.pairwise_map.mpr (hl.imp_of_mem fun {a b} ha hb h e => h (hf a ha b hb e))
/-! places -/
def sumN (webs : List Web) : Int := (webs.map (·.1)).sum
theorem sumN_cons (w : Web) (r : List Web) : sumN (w :: r) = w.1 + sumN r := by unfold sumN; simp
theorem sumN_append (a b : List Web) : sumN (a ++ b) = sumN a + sumN b := by
  induction a with
  | nil => simp [sumN]
  | cons w r ih => rw [List.cons_append, sumN_cons, sumN_cons, ih]; omega
def offs : Int → List Web → List Int
  | _, [] => []
  | t, w :: r => t :: offs (t + w.1) r
theorem offs_length (t : Int) (webs : List Web) : (offs t webs).length = webs.length := by
  induction webs generalizing t with
  | nil => rfl
  | cons w r ih => simp [offs, ih]
theorem offs_snoc (t : Int) (pre : List Web) (x : Web) : offs t (pre ++ [x]) = offs t pre ++ [t + sumN pre] := by
  induction pre generalizing t with
  | nil => simp [offs, sumN]
  | cons w r ih => rw [List.cons_append, offs, offs, ih, sumN_cons, List.cons_append]; congr 3; omega
/-- where web k's places begin -/
def off (webs : List Web) (k : Int) : Int := sumN (webs.take k.toNat)
theorem offs_get (t : Int) : ∀ (webs : List Web) (k : Nat) (h : k < webs.length), (offs t webs)[k]'(by rw [offs_length]; exact h) = t + sumN (webs.take k)
  | w :: r, 0, _ => by simp [offs, sumN]
  | w :: r, k + 1, h => by
    simp only [offs, List.getElem_cons_succ, List.take_succ_cons]
    rw [offs_get (t + w.1) r k (by simpa using h), sumN_cons]; omega
theorem gi_offs {webs : List Web} {k : Int} (h0 : 0 ≤ k) (h : k < webs.length) : gi (offs 0 webs) k = off webs k := by
  rw [gi_int h0 (by rw [offs_length]; exact h), offs_get _ _ _ (by omega)]; unfold off; omega
def placedF (webs : List Web) : Int × List Int := (sumN webs, offs 0 webs)
def placedP (webs : List Web) : Prop := webs.length < 10000000
def movedBy (w : Web) (b : Int) : List (Int × Int) := w.2.map fun p => (b + p.1, b + p.2)
def movedByP (w : Web) (_ : Int) : Prop := w.2.length ≤ 10000000
/-- the web and the place of its own that place x of all is -/
def spotL : List Web → Int → Int → Int × Int
  | [], k, x => (k, x)
  | w :: r, k, x => if x < w.1 then (k, x) else spotL r (k + 1) (x - w.1)
def spot (webs : List Web) (x : Int) : Int × Int := spotL webs 0 x
theorem off_0 (webs : List Web) : off webs 0 = 0 := rfl
theorem off_cons {w : Web} {r : List Web} {k : Int} (h : 0 ≤ k) : off (w :: r) (k + 1) = w.1 + off r k := by
  unfold off
  rw [show (k + 1).toNat = k.toNat + 1 by omega, List.take_succ_cons, sumN_cons]
theorem off_succ {webs : List Web} {k : Int} (h0 : 0 ≤ k) (h : k < webs.length) : off webs (k + 1) = off webs k + (gi webs k).1 := by
  have hk : k.toNat < webs.length := by omega
  unfold off
  rw [show (k + 1).toNat = k.toNat + 1 by omega, List.take_succ_eq_append_getElem hk, sumN_append, gi_int h0 h]
  · simp [sumN]
theorem gi_cons_succ {α : Type} [Inhabited α] {w : α} {r : List α} {k : Int} (h0 : 0 ≤ k) (h : k < r.length) : gi (w :: r) (k + 1) = gi r k := by
  rw [gi_int (by omega) (by simp; omega), gi_int h0 h]
  simp only [show (k + 1).toNat = k.toNat + 1 by omega, List.getElem_cons_succ]
theorem spotL_ok : ∀ (webs : List Web) (j x : Int), (∀ w ∈ webs, 0 ≤ w.1) → 0 ≤ x → x < sumN webs → ∃ k p, spotL webs j x = (j + k, p) ∧ 0 ≤ k ∧ k < webs.length ∧ 0 ≤ p ∧ p < (gi webs k).1 ∧ x = off webs k + p
  | [], j, x, _, h0, h => by simp [sumN] at h; omega
  | w :: r, j, x, hw, h0, h => by
    unfold spotL
    by_cases hx : x < w.1
    · rw [if_pos hx]
      exact ⟨0, x, by simp, Int.le_refl _, by simp, h0, by rw [gi_int (Int.le_refl _) (by simp)]; exact hx, by rw [off_0]; omega⟩
    · rw [if_neg hx]
      rw [sumN_cons] at h
      obtain ⟨k, p, e, h1, h2, h3, h4, h5⟩ := spotL_ok r (j + 1) (x - w.1) (fun v hv => hw v (by simp [hv])) (by omega) (by omega)
      refine ⟨k + 1, p, by rw [e]; congr 1; omega, by omega, by simp; omega, h3, by rw [gi_cons_succ h1 h2]; exact h4, by rw [off_cons h1]; omega⟩
theorem spot_ok {webs : List Web} {x : Int} (hw : ∀ w ∈ webs, 0 ≤ w.1) (h0 : 0 ≤ x) (h : x < sumN webs) :
    0 ≤ (spot webs x).1 ∧ (spot webs x).1 < webs.length ∧ 0 ≤ (spot webs x).2 ∧ (spot webs x).2 < (gi webs (spot webs x).1).1 ∧ x = off webs (spot webs x).1 + (spot webs x).2 := by
  obtain ⟨k, p, e, h1, h2, h3, h4, h5⟩ := spotL_ok webs 0 x hw h0 h
  unfold spot
  rw [e, Int.zero_add]
  exact ⟨h1, h2, h3, h4, h5⟩
theorem off_mono' {webs : List Web} (hw : ∀ w ∈ webs, 0 ≤ w.1) : ∀ (n : Nat) (k : Int), 0 ≤ k → k + n ≤ webs.length → off webs k ≤ off webs (k + n)
  | 0, k, _, _ => by simp
  | n + 1, k, h0, h => by
    have h1 := off_mono' hw n k h0 (by omega)
    have h2 := off_succ (webs := webs) (k := k + n) (by omega) (by omega)
    have h3 := hw _ (gi_mem (l := webs) (i := k + n) (by omega) (by omega))
    rw [show k + ((n + 1 : Nat) : Int) = k + n + 1 by omega]; omega
theorem off_mono {webs : List Web} (hw : ∀ w ∈ webs, 0 ≤ w.1) {k l : Int} (h0 : 0 ≤ k) (h : k ≤ l) (hl : l ≤ webs.length) : off webs k ≤ off webs l := by
  have := off_mono' hw (l - k).toNat k h0 (by omega)
  rwa [show k + (((l - k).toNat : Nat) : Int) = l by omega] at this
theorem off_len (webs : List Web) : off webs webs.length = sumN webs := by unfold off; rw [Int.toNat_natCast, List.take_length]
theorem off_lt {webs : List Web} (hw : ∀ w ∈ webs, 0 ≤ w.1) {k l : Int} (h0 : 0 ≤ k) (h : k < l) (hl : l ≤ webs.length) : off webs k + (gi webs k).1 ≤ off webs l := by
  rw [← off_succ h0 (by omega)]; exact off_mono hw (by omega) (by omega) hl
theorem off_rng {webs : List Web} (hw : ∀ w ∈ webs, 0 ≤ w.1) {k p : Int} (h0 : 0 ≤ k) (h : k < webs.length) (hp : 0 ≤ p) (hq : p < (gi webs k).1) : 0 ≤ off webs k + p ∧ off webs k + p < sumN webs := by
  have h1 := off_mono hw (Int.le_refl 0) h0 (Int.le_of_lt h)
  have h2 := off_lt hw h0 h (Int.le_refl _)
  rw [off_0] at h1
  rw [off_len] at h2
  omega
theorem spot_off {webs : List Web} (hw : ∀ w ∈ webs, 0 ≤ w.1) {k p : Int} (h0 : 0 ≤ k) (h : k < webs.length) (hp : 0 ≤ p) (hq : p < (gi webs k).1) : spot webs (off webs k + p) = (k, p) := by
  have hr := off_rng hw h0 h hp hq
  obtain ⟨h1, h2, h3, h4, h5⟩ := spot_ok hw hr.1 hr.2
  generalize spot webs (off webs k + p) = s at *
  have e : s.1 = k := by
    rcases Int.lt_or_le s.1 k with q | q
    · have := off_lt hw h1 q (Int.le_of_lt h); omega
    · rcases Int.lt_or_le k s.1 with q2 | q2
      · have := off_lt hw h0 q2 (Int.le_of_lt h2); omega
      · omega
  refine Prod.ext e ?_
  rw [e] at h5; show s.2 = p; omega
theorem spot_lt {webs : List Web} (hw : ∀ w ∈ webs, 0 ≤ w.1) {x y : Int} (h0 : 0 ≤ x) (h : x < y) (hy : y < sumN webs) : (spot webs x).1 < (spot webs y).1 ∨ ((spot webs x).1 = (spot webs y).1 ∧ (spot webs x).2 < (spot webs y).2) := by
  obtain ⟨a1, a2, a3, a4, a5⟩ := spot_ok hw h0 (by omega)
  obtain ⟨b1, b2, b3, b4, b5⟩ := spot_ok hw (show 0 ≤ y by omega) hy
  rcases Int.lt_or_le (spot webs y).1 (spot webs x).1 with q | q
  · have := off_lt hw b1 q (Int.le_of_lt a2); omega
  · rcases Int.lt_or_le (spot webs x).1 (spot webs y).1 with q2 | q2
    · exact .inl q2
    · right
      have e : (spot webs x).1 = (spot webs y).1 := by omega
      rw [e] at a5
      exact ⟨e, by omega⟩
/-- tied in the web where webs are put into a web -/
def putR (web : Web) (webs : List Web) (x y : Int) : Bool :=
  let a := spot webs x
  let b := spot webs y
  if a.1 = b.1 then inl (a.2, b.2) (gi webs a.1).2 else inl (a.1, b.1) web.2
def putIn (web : Web) (webs : List Web) : Web := mkW (sumN webs) (putR web webs)
structure putInP (web : Web) (webs : List Web) : Prop where
  isw : IsWeb web
  len : web.1 = webs.length
  ws : ∀ w ∈ webs, IsWeb w ∧ w.1 ≤ 24
  n24 : web.1 ≤ 24
theorem putInP.nn {web : Web} {webs : List Web} (h : putInP web webs) : ∀ w ∈ webs, 0 ≤ w.1 := fun w m => (h.ws w m).1.n0
theorem sumN_nn {webs : List Web} (h : ∀ w ∈ webs, 0 ≤ w.1) : 0 ≤ sumN webs := by
  have := off_mono h (Int.le_refl 0) (Int.ofNat_nonneg webs.length) (Int.le_refl _)
  rw [off_0, off_len] at this; exact this
theorem putIn_web {web : Web} {webs : List Web} (h : putInP web webs) : IsWeb (putIn web webs) := mkW_web (sumN_nn h.nn) _
/-- the ties that the program gathers: within each web -/
def tiesA (webs : List Web) (k : Nat) : List (Int × Int) := ((List.zip webs (offs 0 webs)).take k).flatMap fun p => movedBy p.1 p.2
def block (webs : List Web) (p : Int × Int) : List (Int × Int) := (irange 0 (gi webs p.1).1).flatMap fun i => (irange 0 (gi webs p.2).1).map fun j => (off webs p.1 + i, off webs p.2 + j)
theorem mem_movedBy {w : Web} {b : Int} {p : Int × Int} : p ∈ movedBy w b ↔ (p.1 - b, p.2 - b) ∈ w.2 := by
  unfold movedBy
  rw [List.mem_map]
  constructor
  · rintro ⟨q, hq, rfl⟩
    have : (b + q.1 - b, b + q.2 - b) = q := Prod.ext (by show b + q.1 - b = q.1; omega) (by show b + q.2 - b = q.2; omega)
    rw [this]; exact hq
  · intro h
    exact ⟨_, h, Prod.ext (by show b + (p.1 - b) = p.1; omega) (by show b + (p.2 - b) = p.2; omega)⟩
theorem zip_eq (webs : List Web) : List.zip webs (offs 0 webs) = (irange 0 webs.length).map fun k => (gi webs k, off webs k) := by
  refine List.ext_getElem (by rw [List.length_zip, offs_length, List.length_map, irange_length]; omega) fun i h1 h2 => ?_
  rw [List.length_zip, offs_length, Nat.min_self] at h1
  rw [List.getElem_zip, List.getElem_map]
  have e : (irange 0 (webs.length : Int))[i]'(by rw [irange_length]; omega) = (i : Int) := by unfold irange; rw [List.getElem_map, List.getElem_range]; omega
  rw [e, gi_nat h1, ← gi_offs (by omega) (by omega), gi_nat (by rw [offs_length]; exact h1)]
theorem zip_offs {webs : List Web} {q : Web × Int} : q ∈ List.zip webs (offs 0 webs) ↔ ∃ k : Int, 0 ≤ k ∧ k < webs.length ∧ q = (gi webs k, off webs k) := by
  constructor
  · intro h
    obtain ⟨i, hi, e⟩ := List.getElem_of_mem h
    rw [List.length_zip, offs_length, Nat.min_self] at hi
    rw [List.getElem_zip] at e
    refine ⟨i, by omega, by omega, ?_⟩
    rw [← e, gi_nat hi, ← gi_offs (by omega) (by omega), gi_nat (by rw [offs_length]; exact hi)]
  · rintro ⟨k, h0, h, rfl⟩
    rw [gi_int h0 h, ← gi_offs h0 h, gi_int h0 (by rw [offs_length]; exact h)]
    exact List.mem_iff_getElem.mpr ⟨k.toNat, by rw [List.length_zip, offs_length]; omega, by rw [List.getElem_zip]⟩
/-- the program's ties -/
def tiesP (web : Web) (webs : List Web) : List (Int × Int) := ((List.zip webs (offs 0 webs)).flatMap fun p => movedBy p.1 p.2) ++ web.2.flatMap (block webs)
theorem mem_block {webs : List Web} {p x : Int × Int} : x ∈ block webs p ↔ (off webs p.1 ≤ x.1 ∧ x.1 < off webs p.1 + (gi webs p.1).1) ∧ (off webs p.2 ≤ x.2 ∧ x.2 < off webs p.2 + (gi webs p.2).1) := by
  unfold block
  rw [List.mem_flatMap]
  constructor
  · rintro ⟨i, hi, h⟩
    obtain ⟨j, hj, rfl⟩ := List.mem_map.mp h
    have h1 := mem_irange.mp hi; have h2 := mem_irange.mp hj
    dsimp only
    omega
  · rintro ⟨h1, h2⟩
    exact ⟨x.1 - off webs p.1, mem_irange.mpr (by omega), List.mem_map.mpr ⟨x.2 - off webs p.2, mem_irange.mpr (by omega), Prod.ext (by show off webs p.1 + (x.1 - off webs p.1) = x.1; omega) (by show off webs p.2 + (x.2 - off webs p.2) = x.2; omega)⟩⟩
theorem mem_tiesP {web : Web} {webs : List Web} (h : putInP web webs) {x : Int × Int} : x ∈ tiesP web webs ↔ (0 ≤ x.1 ∧ x.1 < x.2 ∧ x.2 < sumN webs) ∧ putR web webs x.1 x.2 = true := by
  unfold tiesP
  rw [List.mem_append]
  constructor
  · rintro (m | m)
    · obtain ⟨q, hq, hx⟩ := List.mem_flatMap.mp m
      obtain ⟨k, h0, hk, rfl⟩ := zip_offs.mp hq
      have hx := mem_movedBy.mp hx
      have hw := (h.ws _ (gi_mem h0 hk)).1.mem _ hx
      dsimp only at hw hx
      have e1 := spot_off h.nn h0 hk (p := x.1 - off webs k) (by omega) (by omega)
      have e2 := spot_off h.nn h0 hk (p := x.2 - off webs k) (by omega) (by omega)
      have r1 := off_rng h.nn h0 hk (p := x.1 - off webs k) (by omega) (by omega)
      have r2 := off_rng h.nn h0 hk (p := x.2 - off webs k) (by omega) (by omega)
      rw [show off webs k + (x.1 - off webs k) = x.1 by omega] at e1 r1
      rw [show off webs k + (x.2 - off webs k) = x.2 by omega] at e2 r2
      refine ⟨⟨r1.1, by omega, r2.2⟩, ?_⟩
      unfold putR
      rw [e1, e2]
      simp only [if_true]
      exact inl_iff.mpr hx
    · obtain ⟨p, hp, hx⟩ := List.mem_flatMap.mp m
      have hw := h.isw.mem _ hp
      obtain ⟨⟨h1, h2⟩, h3, h4⟩ := mem_block.mp hx
      have l1 : p.1 < webs.length := by have := h.len; omega
      have l2 : p.2 < webs.length := by have := h.len; omega
      have e1 := spot_off h.nn hw.1 l1 (p := x.1 - off webs p.1) (by omega) (by omega)
      have e2 := spot_off h.nn (show 0 ≤ p.2 by omega) l2 (p := x.2 - off webs p.2) (by omega) (by omega)
      have r1 := off_rng h.nn hw.1 l1 (p := x.1 - off webs p.1) (by omega) (by omega)
      have r2 := off_rng h.nn (show 0 ≤ p.2 by omega) l2 (p := x.2 - off webs p.2) (by omega) (by omega)
      have o := off_lt h.nn hw.1 hw.2.1 (Int.le_of_lt l2)
      rw [show off webs p.1 + (x.1 - off webs p.1) = x.1 by omega] at e1 r1
      rw [show off webs p.2 + (x.2 - off webs p.2) = x.2 by omega] at e2 r2
      refine ⟨⟨r1.1, by omega, r2.2⟩, ?_⟩
      unfold putR
      rw [e1, e2]
      simp only
      rw [if_neg (by omega)]
      exact inl_iff.mpr hp
  · rintro ⟨⟨h0, hlt, hy⟩, r⟩
    obtain ⟨a1, a2, a3, a4, a5⟩ := spot_ok h.nn h0 (show x.1 < sumN webs by omega)
    obtain ⟨b1, b2, b3, b4, b5⟩ := spot_ok h.nn (show 0 ≤ x.2 by omega) hy
    unfold putR at r
    simp only at r
    by_cases e : (spot webs x.1).1 = (spot webs x.2).1
    · rw [if_pos e, inl_iff] at r
      left
      refine List.mem_flatMap.mpr ⟨_, zip_offs.mpr ⟨_, a1, a2, rfl⟩, mem_movedBy.mpr ?_⟩
      rw [← e] at b5
      have : (x.1 - off webs (spot webs x.1).1, x.2 - off webs (spot webs x.1).1) = ((spot webs x.1).2, (spot webs x.2).2) := Prod.ext (by show x.1 - off webs (spot webs x.1).1 = _; omega) (by show x.2 - off webs (spot webs x.1).1 = _; omega)
      show (x.1 - off webs (spot webs x.1).1, x.2 - off webs (spot webs x.1).1) ∈ _
      rw [this]; exact r
    · rw [if_neg e, inl_iff] at r
      right
      exact List.mem_flatMap.mpr ⟨_, r, mem_block.mpr (by dsimp only; omega)⟩
theorem block_nodup (webs : List Web) (p : Int × Int) : (block webs p).Nodup := by
  unfold block
  refine flatMap_nodup (irange_nodup _ _) (fun a _ => map_nodup (irange_nodup _ _) fun x _ y _ e => ?_) fun a _ b _ hab x hx hy => ?_
  · have := (Prod.mk.inj e).2; omega
  · obtain ⟨j, _, rfl⟩ := List.mem_map.mp hx
    obtain ⟨j', _, e⟩ := List.mem_map.mp hy
    have := (Prod.mk.inj e).1; omega
theorem tiesP_nodup {web : Web} {webs : List Web} (h : putInP web webs) : (tiesP web webs).Nodup := by
  unfold tiesP
  refine List.nodup_append.mpr ⟨?_, ?_, ?_⟩
  · rw [zip_eq, List.flatMap_map]
    refine flatMap_nodup (irange_nodup _ _) (fun k hk => ?_) fun k hk l hl hne x hx hx' => ?_
    · have hk := mem_irange.mp hk
      exact map_nodup (sorted_nodup (h.ws _ (gi_mem hk.1 hk.2)).1.srt) fun a _ b _ e => by
        have := Prod.mk.inj e
        exact Prod.ext (by omega) (by omega)
    · have hk := mem_irange.mp hk
      have hl := mem_irange.mp hl
      have hx := mem_movedBy.mp hx
      have hx' := mem_movedBy.mp hx'
      have hw := (h.ws _ (gi_mem hk.1 hk.2)).1.mem _ hx
      have hw' := (h.ws _ (gi_mem hl.1 hl.2)).1.mem _ hx'
      dsimp only at hw hw' hx hx'
      have e1 := spot_off h.nn hk.1 hk.2 (p := x.1 - off webs k) (by omega) (by omega)
      have e2 := spot_off h.nn hl.1 hl.2 (p := x.1 - off webs l) (by omega) (by omega)
      rw [show off webs k + (x.1 - off webs k) = x.1 by omega] at e1
      rw [show off webs l + (x.1 - off webs l) = x.1 by omega] at e2
      exact hne (Prod.mk.inj (e1.symm.trans e2)).1
  · refine flatMap_nodup (sorted_nodup h.isw.srt) (fun p _ => block_nodup _ _) fun p hp q hq hne x hx hy => ?_
    have hw := h.isw.mem _ hp
    have hw' := h.isw.mem _ hq
    have hl := h.len
    obtain ⟨a1, a2⟩ := mem_block.mp hx
    obtain ⟨b1, b2⟩ := mem_block.mp hy
    have e1 := spot_off h.nn hw.1 (by omega) (p := x.1 - off webs p.1) (by omega) (by omega)
    have e2 := spot_off h.nn (show 0 ≤ p.2 by omega) (by omega) (p := x.2 - off webs p.2) (by omega) (by omega)
    have f1 := spot_off h.nn hw'.1 (by omega) (p := x.1 - off webs q.1) (by omega) (by omega)
    have f2 := spot_off h.nn (show 0 ≤ q.2 by omega) (by omega) (p := x.2 - off webs q.2) (by omega) (by omega)
    rw [show off webs p.1 + (x.1 - off webs p.1) = x.1 by omega] at e1
    rw [show off webs p.2 + (x.2 - off webs p.2) = x.2 by omega] at e2
    rw [show off webs q.1 + (x.1 - off webs q.1) = x.1 by omega] at f1
    rw [show off webs q.2 + (x.2 - off webs q.2) = x.2 by omega] at f2
    exact hne (Prod.ext (Prod.mk.inj (e1.symm.trans f1)).1 (Prod.mk.inj (e2.symm.trans f2)).1)
  · intro x hx y hy e
    subst e
    obtain ⟨q, hq, hx⟩ := List.mem_flatMap.mp hx
    obtain ⟨k, h0, hk, rfl⟩ := zip_offs.mp hq
    have hx := mem_movedBy.mp hx
    have hw := (h.ws _ (gi_mem h0 hk)).1.mem _ hx
    obtain ⟨p, hp, hy⟩ := List.mem_flatMap.mp hy
    have hw' := h.isw.mem _ hp
    have hl := h.len
    obtain ⟨a1, a2⟩ := mem_block.mp hy
    dsimp only at hw
    have e1 := spot_off h.nn h0 hk (p := x.1 - off webs k) (by omega) (by omega)
    have e2 := spot_off h.nn h0 hk (p := x.2 - off webs k) (by omega) (by omega)
    have f1 := spot_off h.nn hw'.1 (by omega) (p := x.1 - off webs p.1) (by omega) (by omega)
    have f2 := spot_off h.nn (show 0 ≤ p.2 by omega) (by omega) (p := x.2 - off webs p.2) (by omega) (by omega)
    rw [show off webs k + (x.1 - off webs k) = x.1 by omega] at e1
    rw [show off webs k + (x.2 - off webs k) = x.2 by omega] at e2
    rw [show off webs p.1 + (x.1 - off webs p.1) = x.1 by omega] at f1
    rw [show off webs p.2 + (x.2 - off webs p.2) = x.2 by omega] at f2
    have g1 := (Prod.mk.inj (e1.symm.trans f1)).1
    have g2 := (Prod.mk.inj (e2.symm.trans f2)).1
    omega
theorem sort_tiesP {web : Web} {webs : List Web} (h : putInP web webs) : sortP (tiesP web webs) = (putIn web webs).2 := sort_mk (tiesP_nodup h) fun _ => mem_tiesP h
/-! the spots, one behind the other -/
def spotsF (webs : List Web) : List (Int × Int) := (ienum webs).flatMap fun p => (irange 0 p.2.1).map fun q => (p.1, q)
theorem ienum_eq (webs : List Web) : ienum webs = (irange 0 webs.length).map fun k => (k, gi webs k) := by
  refine List.ext_getElem (by rw [ienum_length, List.length_map, irange_length]; omega) fun i h1 h2 => ?_
  rw [ienum_length] at h1
  have hm : (ienum webs)[i]'(by rw [ienum_length]; exact h1) ∈ ienum webs := List.getElem_mem _
  have e1 : ((ienum webs).map (·.1))[i]'(by rw [List.length_map, ienum_length]; exact h1) = (i : Int) := by
    have : (irange 0 (webs.length : Int))[i]'(by rw [irange_length]; omega) = (i : Int) := by unfold irange; rw [List.getElem_map, List.getElem_range]; omega
    simp only [ienum_fst, this]
  rw [List.getElem_map] at e1
  have e2 := (mem_ienum.mp hm).2.2
  rw [List.getElem_map]
  have e3 : (irange 0 (webs.length : Int))[i]'(by rw [irange_length]; omega) = (i : Int) := by unfold irange; rw [List.getElem_map, List.getElem_range]; omega
  rw [e3]
  exact Prod.ext e1 (by rw [← e2, e1])
theorem spots_eq : ∀ (n : Nat) {webs : List Web}, (∀ w ∈ webs, 0 ≤ w.1) → n ≤ webs.length → ((irange 0 (n : Int)).flatMap fun k => (irange 0 (gi webs k).1).map fun q => (k, q)) = (irange 0 (off webs n)).map (spot webs)
  | 0, webs, _, _ => by rw [show off webs ((0 : Nat) : Int) = 0 from rfl]; simp [irange_nil]
  | n + 1, webs, hw, h => by
    have ih := spots_eq n hw (by omega)
    have hs := off_succ (webs := webs) (k := n) (by omega) (by omega)
    have h0 := hw _ (gi_mem (l := webs) (i := n) (by omega) (by omega))
    have hm := off_mono hw (Int.le_refl 0) (show (0 : Int) ≤ n by omega) (by omega)
    rw [off_0] at hm
    rw [show ((n + 1 : Nat) : Int) = (n : Int) + 1 by omega, irange_snoc (by omega), List.flatMap_append, ih, hs]
    have split : irange 0 (off webs n + (gi webs n).1) = irange 0 (off webs n) ++ (irange 0 (gi webs n).1).map fun q => off webs n + q := by
      unfold irange
      rw [show (off webs n + (gi webs n).1 - 0).toNat = (off webs n - 0).toNat + ((gi webs n).1 - 0).toNat by omega, List.range_add, List.map_append, List.map_map, List.map_map]
      congr 1
      refine List.map_congr_left fun i _ => ?_
      show (0 : Int) + (((off webs n - 0).toNat + i : Nat) : Int) = off webs n + (0 + (i : Nat))
      omega
    rw [split, List.map_append]
    congr 1
    simp only [List.flatMap_cons, List.flatMap_nil, List.append_nil, List.map_map]
    refine List.map_congr_left fun q hq => ?_
    have hq := mem_irange.mp hq
    exact (spot_off hw (by omega) (by omega) hq.1 hq.2).symm
theorem spotsF_eq {webs : List Web} (hw : ∀ w ∈ webs, 0 ≤ w.1) : spotsF webs = (irange 0 (sumN webs)).map (spot webs) := by
  unfold spotsF
  rw [ienum_eq, List.flatMap_map, ← off_len]
  exact spots_eq webs.length hw (Nat.le_refl _)
theorem spotsF_length {webs : List Web} (hw : ∀ w ∈ webs, 0 ≤ w.1) : ((spotsF webs).length : Int) = sumN webs := by
  have := sumN_nn hw
  rw [spotsF_eq hw, List.length_map, irange_length]; omega
theorem gi_irange {lo hi i : Int} (h0 : 0 ≤ i) (h : i < hi - lo) : gi (irange lo hi) i = lo + i := by
  rw [gi_int h0 (by rw [irange_length]; omega)]
  unfold irange
  rw [List.getElem_map, List.getElem_range]; omega
theorem spotsF_get {webs : List Web} (hw : ∀ w ∈ webs, 0 ≤ w.1) {i : Int} (h0 : 0 ≤ i) (h : i < sumN webs) : gi (spotsF webs) i = spot webs i := by
  rw [spotsF_eq hw, gi_map _ h0 (by rw [irange_length]; omega), gi_irange h0 (by omega), Int.zero_add]
end DL

/-! Webs by pairs; keys of dicts. -/
namespace DL
open PySem PySem.Spec L2
theorem keys_put {κ α : Type} [DecidableEq κ] (k : κ) (x : α) : ∀ m : List (κ × α), (putM m k x).map (·.1) = if k ∈ m.map (·.1) then m.map (·.1) else m.map (·.1) ++ [k]
  | [] => by simp [putM, putL]
  | (k', v) :: r => by
    have ih := keys_put k x r
    unfold putM at ih ⊢
    by_cases e : k' = k
    · simp [putL, e]
    · rw [putL, if_neg e, List.map_cons, ih]
      by_cases m : k ∈ r.map (·.1)
      · rw [if_pos m, List.map_cons, if_pos (List.mem_cons_of_mem _ m)]
      · rw [if_neg m, List.map_cons, if_neg (by rw [List.mem_cons]; exact fun h => h.elim (fun z => e z.symm) m)]; rfl
theorem keys_put_nodup {κ α : Type} [DecidableEq κ] {k : κ} {x : α} {m : List (κ × α)} (h : (m.map (·.1)).Nodup) : ((putM m k x).map (·.1)).Nodup := by
  rw [keys_put]
  split
  · exact h
  · rename_i hk
    exact List.nodup_append.mpr ⟨h, by simp, fun a ha b hb e => by rw [List.mem_singleton.mp hb] at e; exact hk (e ▸ ha)⟩
theorem mem_keys_put {κ α : Type} [DecidableEq κ] {k : κ} {x : α} {m : List (κ × α)} {a : κ} : a ∈ (putM m k x).map (·.1) ↔ a ∈ m.map (·.1) ∨ a = k := by
  rw [keys_put]
  split
  · rename_i hk
    exact ⟨.inl, fun h => h.elim id fun e => e ▸ hk⟩
  · rw [List.mem_append, List.mem_singleton]
theorem len_put {κ α : Type} [DecidableEq κ] (k : κ) (x : α) (m : List (κ × α)) : (putM m k x).length ≤ m.length + 1 := by
  have := congrArg List.length (keys_put k x m)
  rw [List.length_map] at this
  rw [this]
  split
  · rw [List.length_map]; omega
  · simp
/-- one or tied -/
def nearT (w : Web) (a b : Int) : Bool := decide (a = b) || tie w a b
theorem nearT_iff {w : Web} {a b : Int} : nearT w a b = true ↔ a = b ∨ tie w a b = true := by unfold nearT; simp
def pairsR (one two : Web) (x y : Int) : Bool := nearT one (x / two.1) (y / two.1) && nearT two (x % two.1) (y % two.1)
def byPairs (one two : Web) : Web := mkW (one.1 * two.1) (pairsR one two)
structure byPairsP (one two : Web) : Prop where
  w1 : IsWeb one
  w2 : IsWeb two
  n1 : one.1 ≤ 24
  n2 : two.1 ≤ 24
/-- the pairs that are one or tied -/
def nearP (w : Web) (p : Int × Int) : Prop := (0 ≤ p.1 ∧ p.1 < w.1) ∧ (0 ≤ p.2 ∧ p.2 < w.1) ∧ nearT w p.1 p.2 = true
def crossF (m : Int) (p q : Int × Int) : Int × Int := (p.1 * m + q.1, p.2 * m + q.2)
theorem div_of {m a b : Int} (h0 : 0 ≤ b) (h : b < m) : (a * m + b) / m = a ∧ (a * m + b) % m = b := by
  have hm : 0 < m := by omega
  constructor
  · rw [Int.add_comm, Int.add_mul_ediv_right _ _ (by omega), Int.ediv_eq_zero_of_lt h0 h, Int.zero_add]
  · rw [Int.add_comm, Int.add_mul_emod_self_right, Int.emod_eq_of_lt h0 h]
theorem mul_lt_of {a b n m : Int} (ha : 0 ≤ a) (han : a < n) (hb : 0 ≤ b) (hbm : b < m) : 0 ≤ a * m + b ∧ a * m + b < n * m := by
  have h1 : 0 ≤ a * m := Int.mul_nonneg ha (by omega)
  have h2 : (a + 1) * m ≤ n * m := Int.mul_le_mul_of_nonneg_right (by omega) (by omega)
  rw [Int.add_mul, Int.one_mul] at h2
  omega
theorem cross_mem {one two : Web} (h : byPairsP one two) {k1 k2 : List (Int × Int)} (m1 : ∀ p, p ∈ k1 ↔ nearP one p) (m2 : ∀ p, p ∈ k2 ↔ nearP two p) {x : Int × Int} :
    x ∈ (k1.flatMap fun p => ((k2.map (crossF two.1 p)).filter fun x => decide (x.1 < x.2))) ↔ (0 ≤ x.1 ∧ x.1 < x.2 ∧ x.2 < one.1 * two.1) ∧ pairsR one two x.1 x.2 = true := by
  rw [List.mem_flatMap]
  constructor
  · rintro ⟨p, hp, hx⟩
    obtain ⟨hx, hlt⟩ := List.mem_filter.mp hx
    obtain ⟨q, hq, rfl⟩ := List.mem_map.mp hx
    obtain ⟨⟨a1, a2⟩, ⟨a3, a4⟩, a5⟩ := (m1 p).mp hp
    obtain ⟨⟨b1, b2⟩, ⟨b3, b4⟩, b5⟩ := (m2 q).mp hq
    have hlt := of_decide_eq_true hlt
    have r1 := mul_lt_of a1 a2 b1 b2
    have r2 := mul_lt_of a3 a4 b3 b4
    refine ⟨⟨r1.1, hlt, r2.2⟩, ?_⟩
    unfold pairsR crossF
    dsimp only
    rw [(div_of b1 b2).1, (div_of b3 b4).1, (div_of b1 b2).2, (div_of b3 b4).2, a5, b5]; rfl
  · rintro ⟨⟨h1, h2, h3⟩, hr⟩
    unfold pairsR at hr
    rw [Bool.and_eq_true] at hr
    have hm : 0 < two.1 := by
      have := h.w2.n0
      rcases Int.lt_or_le 0 two.1 with q | q
      · exact q
      · have : two.1 = 0 := by omega
        rw [this] at h3; simp at h3; omega
    have dm : ∀ y, 0 ≤ y → y < one.1 * two.1 → (0 ≤ y / two.1 ∧ y / two.1 < one.1) ∧ (0 ≤ y % two.1 ∧ y % two.1 < two.1) := fun y y0 y1 =>
      ⟨⟨Int.ediv_nonneg y0 (by omega), Int.ediv_lt_of_lt_mul hm y1⟩, Int.emod_nonneg _ (by omega), Int.emod_lt_of_pos _ hm⟩
    obtain ⟨a1, a2⟩ := dm x.1 h1 (by omega)
    obtain ⟨b1, b2⟩ := dm x.2 (by omega) h3
    refine ⟨(x.1 / two.1, x.2 / two.1), (m1 _).mpr ⟨a1, b1, hr.1⟩, List.mem_filter.mpr ⟨List.mem_map.mpr ⟨(x.1 % two.1, x.2 % two.1), (m2 _).mpr ⟨a2, b2, hr.2⟩, ?_⟩, by simpa using h2⟩⟩
    unfold crossF
    have e1 := Int.mul_ediv_add_emod x.1 two.1
    have e2 := Int.mul_ediv_add_emod x.2 two.1
    rw [Int.mul_comm] at e1 e2
    exact Prod.ext e1 e2
theorem cross_nodup {one two : Web} (h : byPairsP one two) {k1 k2 : List (Int × Int)} (d1 : k1.Nodup) (d2 : k2.Nodup) (m1 : ∀ p, p ∈ k1 ↔ nearP one p) (m2 : ∀ p, p ∈ k2 ↔ nearP two p) :
    (k1.flatMap fun p => ((k2.map (crossF two.1 p)).filter fun x => decide (x.1 < x.2))).Nodup := by
  refine flatMap_nodup d1 (fun p _ => (map_nodup d2 fun a _ b _ e => ?_).filter _) fun p hp q hq hne x hx hy => ?_
  · have := Prod.mk.inj e
    exact Prod.ext (by omega) (by omega)
  · obtain ⟨hx, _⟩ := List.mem_filter.mp hx
    obtain ⟨hy, _⟩ := List.mem_filter.mp hy
    obtain ⟨a, ha, rfl⟩ := List.mem_map.mp hx
    obtain ⟨b, hb, e⟩ := List.mem_map.mp hy
    obtain ⟨⟨a1, a2⟩, ⟨a3, a4⟩, _⟩ := (m2 a).mp ha
    obtain ⟨⟨b1, b2⟩, ⟨b3, b4⟩, _⟩ := (m2 b).mp hb
    have e := Prod.mk.inj e
    apply hne
    have f1 := (div_of (a := p.1) a1 a2).1
    have f2 := (div_of (a := p.2) a3 a4).1
    rw [← e.1, (div_of b1 b2).1] at f1
    rw [← e.2, (div_of b3 b4).1] at f2
    exact Prod.ext f1.symm f2.symm
theorem sort_cross {one two : Web} (h : byPairsP one two) {k1 k2 : List (Int × Int)} (d1 : k1.Nodup) (d2 : k2.Nodup) (m1 : ∀ p, p ∈ k1 ↔ nearP one p) (m2 : ∀ p, p ∈ k2 ↔ nearP two p) :
    sortP (k1.flatMap fun p => ((k2.map (crossF two.1 p)).filter fun x => decide (x.1 < x.2))) = (byPairs one two).2 := sort_mk (cross_nodup h d1 d2 m1 m2) fun _ => cross_mem h m1 m2
theorem near_len {w : Web} (hn : w.1 ≤ 24) {k : List (Int × Int)} (d : k.Nodup) (m : ∀ p, p ∈ k ↔ nearP w p) : k.length ≤ 576 := by
  have h : k ⊆ (irange 0 w.1).flatMap fun a => (irange 0 w.1).map fun b => (a, b) := fun p hp => by
    obtain ⟨h1, h2, _⟩ := (m p).mp hp
    exact List.mem_flatMap.mpr ⟨p.1, mem_irange.mpr h1, List.mem_map.mpr ⟨p.2, mem_irange.mpr h2, rfl⟩⟩
  have h2 := nodup_sub_len _ _ d h
  refine Nat.le_trans h2 ?_
  rw [List.length_flatMap]
  have : ∀ l : List Int, (l.map fun a => ((irange 0 w.1).map fun b => (a, b)).length).sum = l.length * (w.1 - 0).toNat := fun l => by
    induction l with
    | nil => simp
    | cons a r ih => rw [List.map_cons, List.sum_cons, ih, List.length_map, irange_length, List.length_cons, Nat.add_mul]; omega
  rw [this, irange_length]
  exact Nat.mul_le_mul (show _ ≤ 24 by omega) (show _ ≤ 24 by omega)
end DL

/-! part, moved, turned: what they tell. -/
namespace TY
open PySem PySem.Spec L2 DL
theorem put_new {κ α : Type} [DecidableEq κ] {k : κ} {x : α} : ∀ {m : List (κ × α)}, k ∉ m.map (·.1) → putM m k x = m ++ [(k, x)]
  | [], _ => rfl
  | (k', v) :: r, h => by
    have h1 : ¬ k' = k := fun e => h (by simp [e])
    have ih : putL r k x = r ++ [(k, x)] := put_new (m := r) fun q => h (by simp at q ⊢; exact .inr q)
    show putL ((k', v) :: r) k x = _
    simp [putL, h1, ih]
/-- the numbers of some places -/
def nmF : Int → List Int → List (Int × Int)
  | _, [] => []
  | k, x :: r => (x, k) :: nmF (k + 1) r
theorem nm_keys : ∀ (l : List Int) (k : Int), (nmF k l).map (·.1) = l
  | [], _ => rfl
  | x :: r, k => by simp [nmF, nm_keys r]
theorem nm_snoc (x : Int) : ∀ (l : List Int) (k : Int), nmF k (l ++ [x]) = nmF k l ++ [(x, k + l.length)]
  | [], k => by simp [nmF]
  | y :: r, k => by simp [nmF, nm_snoc x r]; omega
theorem nm_length (l : List Int) (k : Int) : (nmF k l).length = l.length := by rw [← List.length_map (f := (·.1)), nm_keys]
theorem nm_hk (a : Int) : ∀ (l : List Int) (k : Int), hk (nmF k l) a = true ↔ a ∈ l
  | [], _ => by simp [nmF, hk, look]
  | x :: r, k => by
    have ih := nm_hk a r (k + 1)
    unfold hk at ih ⊢
    by_cases e : x = a
    · simp [nmF, look, e]
    · simp only [nmF, look, if_neg e, List.mem_cons, ih]
      exact ⟨.inr, fun h => h.resolve_left fun q => e q.symm⟩
theorem nm_gk : ∀ (l : List Int) (k : Int) (i : Nat) (h : i < l.length), l.Nodup → gk (nmF k l) l[i] = k + i
  | x :: r, k, 0, h, _ => by simp [nmF, gk, look]
  | x :: r, k, i + 1, h, nd => by
    have nd := List.nodup_cons.mp nd
    have hi : i < r.length := by simpa using h
    have ne : ¬ x = r[i] := fun e => nd.1 (e ▸ List.getElem_mem _)
    have ih := nm_gk r (k + 1) i hi nd.2
    unfold gk at ih ⊢
    simp only [nmF, List.getElem_cons_succ, look, if_neg ne, ih]
    omega
theorem nm_gi {l : List Int} {i : Int} (nd : l.Nodup) (h0 : 0 ≤ i) (h : i < l.length) : gk (nmF 0 l) (gi l i) = i := by
  rw [gi_int h0 h, nm_gk l 0 _ _ nd]; omega
theorem gi_inj {l : List Int} (nd : l.Nodup) {i j : Int} (hi : 0 ≤ i) (hi' : i < l.length) (hj : 0 ≤ j) (hj' : j < l.length) (e : gi l i = gi l j) : i = j := by
  have := nm_gi nd hi hi'; rw [e, nm_gi nd hj hj'] at this; exact this.symm
theorem mem_gi {l : List Int} {a : Int} (h : a ∈ l) : ∃ i : Int, 0 ≤ i ∧ i < l.length ∧ gi l i = a := by
  obtain ⟨i, hi, e⟩ := List.getElem_of_mem h
  exact ⟨i, by omega, by omega, by rw [gi_nat hi, e]⟩
theorem gi_up {l : List Int} (up : l.Pairwise (· < ·)) {i j : Int} (hi : 0 ≤ i) (h : i < j) (hj : j < l.length) : gi l i < gi l j := by
  rw [gi_int hi (by omega), gi_int (by omega) hj]
  exact List.pairwise_iff_getElem.mp up _ _ _ _ (by omega)
theorem up_nodup {l : List Int} (up : l.Pairwise (· < ·)) : l.Nodup := up.imp fun h e => by omega
/-! part -/
def partF (w : Web) (ps : List Int) : Web := mkW ps.length fun i j => tie w (gi ps i) (gi ps j)
structure partP (w : Web) (ps : List Int) : Prop where
  isw : IsWeb w
  n24 : w.1 ≤ 24
  up : ps.Pairwise (· < ·)
  rng : ∀ p ∈ ps, 0 ≤ p ∧ p < w.1
theorem partF_web (w : Web) (ps : List Int) : IsWeb (partF w ps) := mkW_web (by omega) _
theorem partP.len {w : Web} {ps : List Int} (h : partP w ps) : ps.length ≤ 24 := by
  have := nodup_sub_len ps (irange 0 w.1) (up_nodup h.up) fun x m => mem_irange.mpr (h.rng x m)
  rw [irange_length] at this
  have := h.n24; omega
theorem sort_part {w : Web} {ps : List Int} (h : partP w ps) :
    sortP ((w.2.filter fun p => hk (nmF 0 ps) p.1 && hk (nmF 0 ps) p.2).map fun p => (gk (nmF 0 ps) p.1, gk (nmF 0 ps) p.2)) = (partF w ps).2 := by
  have nd := up_nodup h.up
  have key : ∀ p ∈ w.2.filter (fun p => hk (nmF 0 ps) p.1 && hk (nmF 0 ps) p.2), ∃ i j : Int, (0 ≤ i ∧ i < j ∧ j < ps.length) ∧ p = (gi ps i, gi ps j) := fun p m => by
    obtain ⟨m1, m2⟩ := List.mem_filter.mp m
    simp only [Bool.and_eq_true, nm_hk] at m2
    obtain ⟨i, i0, i1, ei⟩ := mem_gi m2.1
    obtain ⟨j, j0, j1, ej⟩ := mem_gi m2.2
    have lt := (h.isw.mem p m1).2.1
    refine ⟨i, j, ⟨i0, ?_, j1⟩, Prod.ext ei.symm ej.symm⟩
    rcases Int.lt_or_le i j with q | q
    · exact q
    · rcases Int.lt_or_eq_of_le q with q | q
      · have := gi_up h.up j0 q i1; omega
      · rw [q] at ej; omega
  refine sort_mk (map_nodup (List.Pairwise.filter _ (sorted_nodup h.isw.srt)) fun a ma b mb e => ?_) fun p => ?_
  · obtain ⟨i, j, hij, rfl⟩ := key a ma
    obtain ⟨k, l, hkl, rfl⟩ := key b mb
    have e1 := (Prod.mk.inj e).1; have e2 := (Prod.mk.inj e).2
    dsimp only at e1 e2
    rw [nm_gi nd (by omega) (by omega), nm_gi nd (by omega) (by omega)] at e1 e2
    rw [e1, e2]
  · rw [List.mem_map]
    constructor
    · rintro ⟨a, ma, rfl⟩
      obtain ⟨i, j, hij, rfl⟩ := key a ma
      dsimp only
      rw [nm_gi nd (by omega) (by omega), nm_gi nd (by omega) (by omega)]
      exact ⟨hij, (tie_mem (gi_up h.up hij.1 hij.2.1 hij.2.2)).mpr (List.mem_filter.mp ma).1⟩
    · rintro ⟨hp, t⟩
      refine ⟨(gi ps p.1, gi ps p.2), List.mem_filter.mpr ⟨(tie_mem (gi_up h.up hp.1 hp.2.1 hp.2.2)).mp t, ?_⟩, ?_⟩
      · simp only [Bool.and_eq_true, nm_hk]
        exact ⟨gi_mem (by omega) (by omega), gi_mem (by omega) (by omega)⟩
      · dsimp only
        rw [nm_gi nd (by omega) (by omega), nm_gi nd (by omega) (by omega)]
/-! moved -/
def movedF (w : Web) (o : List Int) : Web := mkW w.1 fun i j => tie w (gi o i) (gi o j)
structure movedP (w : Web) (o : List Int) : Prop where
  isw : IsWeb w
  n24 : w.1 ≤ 24
  nd : o.Nodup
  len : (o.length : Int) = w.1
  rng : ∀ p ∈ o, 0 ≤ p ∧ p < w.1
theorem movedF_web {w : Web} (h : IsWeb w) (o : List Int) : IsWeb (movedF w o) := mkW_web h.n0 _
theorem movedP.all {w : Web} {o : List Int} (h : movedP w o) {a : Int} (h0 : 0 ≤ a) (h1 : a < w.1) : a ∈ o := by
  refine Classical.byContradiction fun no => ?_
  have := nodup_sub_len (a :: o) (irange 0 w.1) (List.nodup_cons.mpr ⟨no, h.nd⟩) fun x m => mem_irange.mpr (by
    rcases List.mem_cons.mp m with rfl | m
    · exact ⟨h0, h1⟩
    · exact h.rng x m)
  rw [irange_length, List.length_cons] at this
  have := h.len; omega
theorem sort_moved {w : Web} {o : List Int} (h : movedP w o) :
    sortP (w.2.map fun p => (min (gk (nmF 0 o) p.1) (gk (nmF 0 o) p.2), max (gk (nmF 0 o) p.1) (gk (nmF 0 o) p.2))) = (movedF w o).2 := by
  have nd := h.nd
  have hl := h.len
  have key : ∀ p ∈ w.2, ∃ i j : Int, ((0 ≤ i ∧ i < o.length) ∧ (0 ≤ j ∧ j < o.length) ∧ i ≠ j) ∧ p = (gi o i, gi o j) := fun p m => by
    have hp := h.isw.mem p m
    obtain ⟨i, i0, i1, ei⟩ := mem_gi (h.all (a := p.1) (by omega) (by omega))
    obtain ⟨j, j0, j1, ej⟩ := mem_gi (h.all (a := p.2) (by omega) (by omega))
    exact ⟨i, j, ⟨⟨i0, i1⟩, ⟨j0, j1⟩, fun e => by rw [e] at ei; omega⟩, Prod.ext ei.symm ej.symm⟩
  refine sort_mk (map_nodup (sorted_nodup h.isw.srt) fun a ma b mb e => ?_) fun p => ?_
  · have ha := h.isw.mem a ma; have hb := h.isw.mem b mb
    obtain ⟨i, j, hij, rfl⟩ := key a ma
    obtain ⟨k, l, hkl, rfl⟩ := key b mb
    have e1 := (Prod.mk.inj e).1; have e2 := (Prod.mk.inj e).2
    dsimp only at e1 e2 ha hb
    rw [nm_gi nd (by omega) (by omega), nm_gi nd (by omega) (by omega), nm_gi nd (by omega) (by omega), nm_gi nd (by omega) (by omega)] at e1 e2
    have : (i = k ∧ j = l) ∨ (i = l ∧ j = k) := by omega
    rcases this with ⟨rfl, rfl⟩ | ⟨rfl, rfl⟩
    · rfl
    · omega
  · rw [List.mem_map]
    constructor
    · rintro ⟨a, ma, rfl⟩
      have ha := h.isw.mem a ma
      obtain ⟨i, j, hij, rfl⟩ := key a ma
      dsimp only at ha ⊢
      rw [nm_gi nd (by omega) (by omega), nm_gi nd (by omega) (by omega)]
      refine ⟨by omega, ?_⟩
      have t := (tie_mem ha.2.1).mpr ma
      rcases Int.lt_or_gt_of_ne hij.2.2 with q | q
      · rw [Int.min_eq_left (by omega), Int.max_eq_right (by omega)]; exact t
      · rw [Int.min_eq_right (by omega), Int.max_eq_left (by omega), tie_comm]; exact t
    · rintro ⟨hp, t⟩
      have hr := tie_rng h.isw t
      rcases Int.lt_or_gt_of_ne hr.2.2.2.2 with q | q
      · refine ⟨(gi o p.1, gi o p.2), (tie_mem q).mp t, ?_⟩
        dsimp only
        rw [nm_gi nd (by omega) (by omega), nm_gi nd (by omega) (by omega), Int.min_eq_left (by omega), Int.max_eq_right (by omega)]
      · rw [tie_comm] at t
        refine ⟨(gi o p.2, gi o p.1), (tie_mem q).mp t, ?_⟩
        dsimp only
        rw [nm_gi nd (by omega) (by omega), nm_gi nd (by omega) (by omega), Int.min_eq_right (by omega), Int.max_eq_left (by omega)]
/-! turned -/
def turnedF (w : Web) : Web := mkW w.1 fun i j => !tie w i j
structure webP (w : Web) : Prop where
  isw : IsWeb w
  n24 : w.1 ≤ 24
theorem turnedF_web {w : Web} (h : IsWeb w) : IsWeb (turnedF w) := mkW_web h.n0 _
theorem turned_tie {w : Web} (h : IsWeb w) {a b : Int} (ha : 0 ≤ a) (hb : 0 ≤ b) (ha' : a < w.1) (hb' : b < w.1) (hn : a ≠ b) : tie (turnedF w) a b = !tie w a b :=
  tie_mk' (r := fun i j => !tie w i j) (fun a b => by rw [tie_comm]) ha hb ha' hb' hn

theorem hk_keys {κ α : Type} [DecidableEq κ] {a : κ} : ∀ {m : List (κ × α)}, hk m a = true ↔ a ∈ m.map (·.1)
  | [] => by simp [hk, look]
  | (k, v) :: r => by
    have ih := hk_keys (a := a) (m := r)
    unfold hk at ih ⊢
    by_cases e : k = a
    · simp [look, e]
    · simp only [look, if_neg e, List.map_cons, List.mem_cons, ih]
      exact ⟨.inr, fun h => h.resolve_left fun q => e q.symm⟩
theorem gi_set {α : Type} [Inhabited α] {l : List α} {i j : Int} {x : α} (hi : 0 ≤ i) (hi' : i < l.length) (hj : 0 ≤ j) (hj' : j < l.length) : gi (l.set i.toNat x) j = if j = i then x else gi l j := by
  rw [gi_int hj (by rw [List.length_set]; exact hj'), List.getElem_set]
  by_cases e : j = i
  · subst e; simp
  · rw [if_neg (by omega), if_neg e, gi_int hj hj']
/-- rows of near places -/
structure NearI (n : Int) (S : Int → Int → Prop) (c : Nat) (r : List (List (Int × Bool))) : Prop where
  len : (r.length : Int) = n
  nd : ∀ a, 0 ≤ a → a < n → ((gi r a).map (·.1)).Nodup
  ln : ∀ a, 0 ≤ a → a < n → (gi r a).length ≤ c
  mem : ∀ a, 0 ≤ a → a < n → ∀ b, b ∈ (gi r a).map (·.1) ↔ S a b
theorem NearI.put {n : Int} {S : Int → Int → Prop} {c : Nat} {r : List (List (Int × Bool))} (h : NearI n S c r) {i : Int} (k : Int) (hi : 0 ≤ i) (hi' : i < n) :
    NearI n (fun a b => S a b ∨ (a = i ∧ b = k)) (c + 1) (r.set i.toNat (putM (gi r i) k true)) := by
  have hl := h.len
  have g : ∀ a, 0 ≤ a → a < n → gi (r.set i.toNat (putM (gi r i) k true)) a = if a = i then putM (gi r i) k true else gi r a := fun a a0 a1 => gi_set hi (by omega) a0 (by omega)
  refine ⟨by rw [List.length_set]; exact hl, fun a a0 a1 => ?_, fun a a0 a1 => ?_, fun a a0 a1 b => ?_⟩
  all_goals rw [g a a0 a1]; by_cases e : a = i
  · rw [if_pos e]; exact keys_put_nodup (h.nd i hi hi')
  · rw [if_neg e]; exact h.nd a a0 a1
  · rw [if_pos e]; have := len_put k true (gi r i); have := h.ln i hi hi'; omega
  · rw [if_neg e]; have := h.ln a a0 a1; omega
  · subst e; rw [if_pos rfl, mem_keys_put, h.mem a a0 a1]; simp
  · rw [if_neg e, h.mem a a0 a1]; simp [e]
theorem NearI.nil {n : Int} (h : 0 ≤ n) : NearI n (fun _ _ => False) 0 (List.replicate n.toNat []) := by
  have g : ∀ a, 0 ≤ a → a < n → gi (List.replicate n.toNat ([] : List (Int × Bool))) a = [] := fun a a0 a1 => by
    have := gi_mem (l := List.replicate n.toNat ([] : List (Int × Bool))) a0 (by rw [List.length_replicate]; omega)
    exact List.eq_of_mem_replicate this
  refine ⟨by rw [List.length_replicate]; omega, fun a a0 a1 => ?_, fun a a0 a1 => ?_, fun a a0 a1 b => ?_⟩
  all_goals rw [g a a0 a1]; simp
theorem NearI.tie {w : Web} (hw : IsWeb w) {S : Int → Int → Prop} {c : Nat} {r : List (List (Int × Bool))} (h : NearI w.1 S c r) (hS : ∀ a b, S a b ↔ (a, b) ∈ w.2 ∨ (b, a) ∈ w.2) {a : Int} (b : Int) (a0 : 0 ≤ a) (a1 : a < w.1) :
    hk (gi r a) b = tie w a b := by
  rw [Bool.eq_iff_iff, hk_keys, h.mem a a0 a1, hS]
  constructor
  · rintro (q | q)
    · exact (tie_mem (hw.mem _ q).2.1).mpr q
    · rw [tie_comm]; exact (tie_mem (hw.mem _ q).2.1).mpr q
  · intro t
    rcases Int.lt_or_gt_of_ne (tie_rng hw t).2.2.2.2 with q | q
    · exact .inl ((tie_mem q).mp t)
    · rw [tie_comm] at t; exact .inr ((tie_mem q).mp t)
/-! beside, wholly tied -/
def fullR : Int → Int → Bool := fun _ _ => true
def besideF (webs : List Web) : Web := putIn ((webs.length : Int), []) webs
def whollyF (webs : List Web) : Web := putIn (mkW webs.length fullR) webs
structure joinP (webs : List Web) : Prop where
  len : webs.length ≤ 24
  ws : ∀ w ∈ webs, IsWeb w ∧ w.1 ≤ 24
theorem bare_web {n : Int} (h : 0 ≤ n) : IsWeb (n, []) := ⟨h, fun _ m => (by cases m), List.Pairwise.nil⟩
theorem joinP.bare {webs : List Web} (h : joinP webs) : putInP ((webs.length : Int), []) webs := { isw := bare_web (by omega), len := rfl, ws := h.ws, n24 := by have := h.len; show (webs.length : Int) ≤ 24; omega }
theorem joinP.full {webs : List Web} (h : joinP webs) : putInP (mkW webs.length fullR) webs := { isw := mkW_web (by omega) _, len := rfl, ws := h.ws, n24 := by have := h.len; show (webs.length : Int) ≤ 24; omega }
theorem rowsTo_full {n a : Int} (h : 0 ≤ a) : rowsTo n fullR (a + 1) = rowsTo n fullR a ++ (irange (a + 1) n).map fun b => (a, b) := by
  rw [rowsTo_snoc fullR h, show ((irange (a + 1) n).filter fun b => fullR a b) = irange (a + 1) n from List.filter_eq_self.mpr fun _ _ => rfl]
def fullW (n : Int) : Web := mkW n fullR
def fullP (n : Int) : Prop := 0 ≤ n ∧ n ≤ 24
end TY

/-! Near places; knots. -/
namespace TY
open PySem PySem.Spec L2 DL
/-! near -/
def nearL (w : Web) (p : Int) : List Int := (irange 0 w.1).filter fun b => tie w p b
structure nearLP (w : Web) (p : Int) : Prop where
  isw : IsWeb w
  n24 : w.1 ≤ 24
  p0 : 0 ≤ p
  p1 : p < w.1
theorem mem_nearL {w : Web} {p b : Int} : b ∈ nearL w p ↔ (0 ≤ b ∧ b < w.1) ∧ tie w p b = true := by unfold nearL; rw [List.mem_filter, mem_irange]
theorem nearL_up (w : Web) (p : Int) : (nearL w p).Pairwise (· < ·) := (irange_sorted 0 w.1).sublist List.filter_sublist
/-! knots -/
structure isK (w : Web) (n : Int) (k : List Int) : Prop where
  up : k.Pairwise (· < ·)
  rng : ∀ a ∈ k, 0 ≤ a ∧ a < n
  tied : k.Pairwise fun a b => tie w a b = true
theorem isK.nil (w : Web) (n : Int) : isK w n [] := ⟨.nil, fun _ m => (by cases m), .nil⟩
theorem isK.mono {w : Web} {n m : Int} {k : List Int} (h : isK w n k) (hm : n ≤ m) : isK w m k := ⟨h.up, fun a ha => by have := h.rng a ha; omega, h.tied⟩
theorem isK.snoc {w : Web} {n v : Int} {k : List Int} (h : isK w n k) (v0 : 0 ≤ v) (v1 : v < n) (hl : ∀ a ∈ k, a < v) (ht : ∀ a ∈ k, tie w a v = true) : isK w n (k ++ [v]) :=
  ⟨List.pairwise_append.mpr ⟨h.up, List.pairwise_singleton _ _, fun a ha b hb => by rw [List.mem_singleton.mp hb]; exact hl a ha⟩,
    fun a ha => by
      rcases List.mem_append.mp ha with ha | ha
      · exact h.rng a ha
      · rw [List.mem_singleton.mp ha]; exact ⟨v0, v1⟩,
    List.pairwise_append.mpr ⟨h.tied, List.pairwise_singleton _ _, fun a ha b hb => by rw [List.mem_singleton.mp hb]; exact ht a ha⟩⟩
theorem isK.init {w : Web} {n v : Int} {k : List Int} (h : isK w n (k ++ [v])) : isK w n k ∧ (0 ≤ v ∧ v < n) ∧ (∀ a ∈ k, a < v) ∧ ∀ a ∈ k, tie w a v = true := by
  obtain ⟨u1, _, u2⟩ := List.pairwise_append.mp h.up
  obtain ⟨t1, _, t2⟩ := List.pairwise_append.mp h.tied
  exact ⟨⟨u1, fun a ha => h.rng a (by simp [ha]), t1⟩, h.rng v (by simp), fun a ha => u2 a ha v (by simp), fun a ha => t2 a ha v (by simp)⟩
/-- all knots within the first places, in the order of the law's own search -/
def knotsTo (w : Web) : Nat → List (List Int)
  | 0 => [[]]
  | p + 1 => knotsTo w p ++ ((knotsTo w p).filter fun k => k.all fun o => inl (o, (p : Int)) w.2).map (· ++ [(p : Int)])
def knotsF (w : Web) : List (List Int) := knotsTo w w.1.toNat
structure knotsP (w : Web) : Prop where
  isw : IsWeb w
  n20 : w.1 ≤ 20
theorem mem_knots {w : Web} : ∀ (p : Nat) (k : List Int), k ∈ knotsTo w p ↔ isK w p k
  | 0, k => by
    unfold knotsTo
    rw [List.mem_singleton]
    constructor
    · rintro rfl; exact isK.nil w _
    · intro h
      cases k with
      | nil => rfl
      | cons a r => have := h.rng a (by simp); omega
  | p + 1, k => by
    unfold knotsTo
    rw [List.mem_append, mem_knots p, List.mem_map]
    constructor
    · rintro (h | ⟨l, hl, rfl⟩)
      · exact h.mono (by omega)
      · obtain ⟨m, ok⟩ := List.mem_filter.mp hl
        have hk := (mem_knots p l).mp m
        refine (hk.mono (m := ((p + 1 : Nat) : Int)) (by omega)).snoc (by omega) (by omega) (fun a ha => (hk.rng a ha).2) fun a ha => ?_
        have := List.all_eq_true.mp ok a ha
        rw [tie_lt (Int.le_of_lt (hk.rng a ha).2)]; exact this
    · intro h
      rcases List.eq_nil_or_concat k with rfl | ⟨l, v, rfl⟩
      · exact .inl (isK.nil w _)
      · rw [List.concat_eq_append] at h ⊢
        obtain ⟨h1, h2, h3, h4⟩ := h.init
        by_cases e : v = p
        · right
          subst e
          have hk : isK w p l := ⟨h1.up, fun a ha => ⟨(h1.rng a ha).1, h3 a ha⟩, h1.tied⟩
          refine ⟨l, List.mem_filter.mpr ⟨(mem_knots p l).mpr hk, List.all_eq_true.mpr fun a ha => ?_⟩, rfl⟩
          have := h4 a ha
          rwa [tie_lt (Int.le_of_lt (h3 a ha))] at this
        · left
          refine ⟨h.up, fun a ha => ⟨(h.rng a ha).1, ?_⟩, h.tied⟩
          rcases List.mem_append.mp ha with ha | ha
          · have := h3 a ha; omega
          · rw [List.mem_singleton.mp ha]; omega
theorem knots_nodup (w : Web) : ∀ p : Nat, (knotsTo w p).Nodup
  | 0 => by simp [knotsTo]
  | p + 1 => by
    unfold knotsTo
    refine List.nodup_append.mpr ⟨knots_nodup w p, map_nodup (List.Pairwise.filter _ (knots_nodup w p)) fun a _ b _ e => (List.append_inj' e rfl).1, fun a ha b hb e => ?_⟩
    subst e
    obtain ⟨l, _, rfl⟩ := List.mem_map.mp hb
    have := ((mem_knots p _).mp ha).rng p (by simp)
    omega
theorem knots_len (w : Web) : ∀ p : Nat, (knotsTo w p).length ≤ 2 ^ p
  | 0 => by simp [knotsTo]
  | p + 1 => by
    have ih := knots_len w p
    unfold knotsTo
    rw [List.length_append, List.length_map, Nat.pow_succ]
    have := List.length_filter_le (fun k : List Int => k.all fun o => inl (o, (p : Int)) w.2) (knotsTo w p)
    omega
theorem knots_big {w : Web} (h : knotsP w) (p : Nat) (hp : p ≤ w.1.toNat) : (knotsTo w p).length ≤ 1048576 :=
  Nat.le_trans (knots_len w p) (Nat.pow_le_pow_right (n := 2) (j := 20) (by omega) (by have := h.n20; omega))
theorem mem_knotsF {w : Web} (h : IsWeb w) (k : List Int) : k ∈ knotsF w ↔ isK w w.1 k := by
  unfold knotsF; rw [mem_knots, Int.toNat_of_nonneg h.n0]
theorem isK.len {w : Web} {n : Int} {k : List Int} (h : isK w n k) (h0 : 0 ≤ n) : (k.length : Int) ≤ n := by
  have := nodup_sub_len k (irange 0 n) (up_nodup h.up) fun a ha => mem_irange.mpr (h.rng a ha)
  rw [irange_length] at this; omega
/-! growing -/
def commonL (w : Web) (k : List Int) : List Int := (irange 0 w.1).filter fun v => k.all fun a => tie w a v
theorem mem_common {w : Web} {k : List Int} {v : Int} : v ∈ commonL w k ↔ (0 ≤ v ∧ v < w.1) ∧ ∀ a ∈ k, tie w a v = true := by
  unfold commonL; rw [List.mem_filter, mem_irange, List.all_eq_true]
theorem common_nil (w : Web) : commonL w [] = irange 0 w.1 := List.filter_eq_self.mpr fun _ _ => rfl
theorem common_snoc (w : Web) (k : List Int) (v : Int) : (commonL w k).filter (fun o => inl o (nearL w v)) = commonL w (k ++ [v]) := by
  unfold commonL
  rw [List.filter_filter]
  refine List.filter_congr fun o mo => ?_
  rw [List.all_append, Bool.and_comm]
  congr 1
  rw [Bool.eq_iff_iff, inl_iff, mem_nearL]
  simp only [List.all_cons, List.all_nil, Bool.and_true]
  exact ⟨fun h => h.2, fun h => ⟨mem_irange.mp mo, h⟩⟩
/-- may v be put behind k -/
def okL (k : List Int) (v : Int) : Bool := decide (k = []) || decide (gi k (-1) < v)
theorem okL_iff {k : List Int} (up : k.Pairwise (· < ·)) {v : Int} : okL k v = true ↔ ∀ a ∈ k, a < v := by
  rcases List.eq_nil_or_concat k with rfl | ⟨l, x, rfl⟩
  · simp [okL]
  · rw [List.concat_eq_append] at up ⊢
    obtain ⟨_, _, u⟩ := List.pairwise_append.mp up
    unfold okL
    rw [gi_last]
    simp only [List.append_eq_nil_iff, List.cons_ne_self, and_false, decide_false, Bool.false_or, decide_eq_true_eq, List.mem_append, List.mem_singleton]
    constructor
    · rintro h a (ha | rfl)
      · have := u a ha x (by simp); omega
      · exact h
    · intro h; exact h x (.inr rfl)
def kidsL (w : Web) (k : List Int) (vs : List Int) : List (List Int × List Int) := (vs.filter (okL k)).map fun v => (k ++ [v], commonL w (k ++ [v]))
theorem kids_snoc (w : Web) (k vs : List Int) (v : Int) : kidsL w k (vs ++ [v]) = kidsL w k vs ++ (if okL k v = true then [(k ++ [v], commonL w (k ++ [v]))] else []) := by
  unfold kidsL
  rw [List.filter_append, List.map_append]
  congr 1
  by_cases h : okL k v = true
  · rw [if_pos h, List.filter_cons, if_pos h]; rfl
  · rw [if_neg h, List.filter_cons, if_neg h]; rfl
theorem mem_kids {w : Web} {k vs l : List Int} : l ∈ (kidsL w k vs).map (·.1) ↔ ∃ v ∈ vs, okL k v = true ∧ l = k ++ [v] := by
  unfold kidsL
  rw [List.map_map, List.mem_map]
  constructor
  · rintro ⟨v, hv, rfl⟩
    obtain ⟨h1, h2⟩ := List.mem_filter.mp hv
    exact ⟨v, h1, h2, rfl⟩
  · rintro ⟨v, h1, h2, rfl⟩
    exact ⟨v, List.mem_filter.mpr ⟨h1, h2⟩, rfl⟩
/-- what stands found while place t is reached -/
structure GrowI (w : Web) (F : List (List Int × List Int)) (t : Int) : Prop where
  t0 : 0 ≤ t
  t1 : t ≤ F.length
  nd : (F.map (·.1)).Nodup
  ok : ∀ p ∈ F, isK w w.1 p.1 ∧ p.2 = commonL w p.1
  root : [] ∈ F.map (·.1)
  kids : ∀ i, 0 ≤ i → i < t → ∀ v ∈ commonL w (gi F i).1, okL (gi F i).1 v = true → (gi F i).1 ++ [v] ∈ F.map (·.1)
  par : ∀ k v, k ++ [v] ∈ F.map (·.1) → ∃ i, 0 ≤ i ∧ i < t ∧ (gi F i).1 = k
theorem GrowI.start (w : Web) : GrowI w [([], irange 0 w.1)] 0 :=
  ⟨Int.le_refl _, by simp, by simp, fun p m => by rw [List.mem_singleton.mp m]; exact ⟨isK.nil _ _, (common_nil w).symm⟩, by simp, fun i h0 h1 => by omega, fun k v m => by simp at m⟩
theorem GrowI.step {w : Web} {F : List (List Int × List Int)} {t : Int} (h : GrowI w F t) (ht : t < F.length) : GrowI w (F ++ kidsL w (gi F t).1 (commonL w (gi F t).1)) (t + 1) := by
  have t0 := h.t0
  have mt := gi_mem t0 ht
  obtain ⟨hk, _⟩ := h.ok _ mt
  have gl : ∀ i, 0 ≤ i → i < t + 1 → gi (F ++ kidsL w (gi F t).1 (commonL w (gi F t).1)) i = gi F i := fun i i0 i1 => gi_append_left i0 (by omega)
  have cnd : (commonL w (gi F t).1).Nodup := List.Pairwise.filter _ (irange_nodup _ _)
  refine ⟨by omega, by rw [List.length_append]; omega, ?_, ?_, ?_, ?_, ?_⟩
  · rw [List.map_append]
    refine List.nodup_append.mpr ⟨h.nd, ?_, fun a ha b hb e => ?_⟩
    · unfold kidsL
      rw [List.map_map]
      exact map_nodup (List.Pairwise.filter _ cnd) fun a _ b _ e => by simpa using e
    · subst e
      obtain ⟨v, _, _, rfl⟩ := mem_kids.mp hb
      obtain ⟨i, i0, i1, e⟩ := h.par _ _ ha
      have g1 : gi (F.map (·.1)) i = gi (F.map (·.1)) t := by rw [gi_map _ i0 (by omega), gi_map _ t0 ht, e]
      rw [gi_int i0 (by rw [List.length_map]; omega), gi_int t0 (by rw [List.length_map]; omega)] at g1
      have := (List.getElem_inj h.nd).mp g1
      omega
  · intro p hp
    rcases List.mem_append.mp hp with hp | hp
    · exact h.ok p hp
    · unfold kidsL at hp
      obtain ⟨v, hv, rfl⟩ := List.mem_map.mp hp
      obtain ⟨h1, h2⟩ := List.mem_filter.mp hv
      have h1 := mem_common.mp h1
      exact ⟨hk.snoc h1.1.1 h1.1.2 ((okL_iff hk.up).mp h2) h1.2, rfl⟩
  · rw [List.map_append, List.mem_append]; exact .inl h.root
  · intro i i0 i1 v hv ok
    rw [gl i i0 i1] at hv ok ⊢
    rw [List.map_append, List.mem_append]
    by_cases e : i = t
    · subst e
      exact .inr (mem_kids.mpr ⟨v, hv, ok, rfl⟩)
    · exact .inl (h.kids i i0 (by omega) v hv ok)
  · intro k v m
    rw [List.map_append, List.mem_append] at m
    rcases m with m | m
    · obtain ⟨i, i0, i1, e⟩ := h.par k v m
      exact ⟨i, i0, by omega, by rw [gl i i0 (by omega)]; exact e⟩
    · obtain ⟨u, _, _, e⟩ := mem_kids.mp m
      exact ⟨t, t0, by omega, by rw [gl t t0 (by omega)]; exact ((List.append_inj' e rfl).1).symm⟩
theorem GrowI.done {w : Web} {F : List (List Int × List Int)} {t : Int} (h : GrowI w F t) (ht : (F.length : Int) ≤ t) (k : List Int) : k ∈ F.map (·.1) ↔ isK w w.1 k := by
  constructor
  · intro m
    obtain ⟨p, mp, rfl⟩ := List.mem_map.mp m
    exact (h.ok p mp).1
  · intro hk
    have : ∀ n : Nat, ∀ k : List Int, k.length = n → isK w w.1 k → k ∈ F.map (·.1) := fun n => by
      induction n with
      | zero => intro k e _; rw [List.length_eq_zero_iff.mp e]; exact h.root
      | succ n ih =>
        intro k e hk
        rcases List.eq_nil_or_concat k with rfl | ⟨l, v, rfl⟩
        · simp at e
        · rw [List.concat_eq_append] at e hk ⊢
          obtain ⟨h1, h2, h3, h4⟩ := hk.init
          have ml := ih l (by simpa using e) h1
          obtain ⟨p, mp, rfl⟩ := List.mem_map.mp ml
          obtain ⟨i, hi, ei⟩ := List.getElem_of_mem mp
          have gi' : gi F (i : Int) = p := by rw [gi_nat hi, ei]
          have := h.kids i (by omega) (by omega) v (by rw [gi']; exact mem_common.mpr ⟨h2, h4⟩) (by rw [gi']; exact (okL_iff h1.up).mpr h3)
          rwa [gi'] at this
    exact this _ k rfl hk
theorem GrowI.len {w : Web} (hw : IsWeb w) {F : List (List Int × List Int)} {t : Int} (h : GrowI w F t) : F.length ≤ (knotsF w).length := by
  rw [← List.length_map (f := (·.1))]
  refine nodup_sub_len _ _ h.nd fun k m => (mem_knotsF hw k).mpr ?_
  obtain ⟨p, mp, rfl⟩ := List.mem_map.mp m
  exact (h.ok p mp).1
/-- growing, as the program does it -/
def bfsL (w : Web) : Nat → List (List Int × List Int) → Int → List (List Int × List Int)
  | 0, F, _ => F
  | n + 1, F, t => if t < F.length then bfsL w n (F ++ kidsL w (gi F t).1 (commonL w (gi F t).1)) (t + 1) else F
def grownF (w : Web) : List (List Int × List Int) := bfsL w (knotsF w).length [([], irange 0 w.1)] 0
theorem bfs_end {w : Web} {F : List (List Int × List Int)} {t : Int} (h : ¬ t < F.length) : ∀ n, bfsL w n F t = F
  | 0 => rfl
  | n + 1 => by unfold bfsL; rw [if_neg h]
theorem bfs_ok {w : Web} (hw : IsWeb w) : ∀ (n : Nat) (F : List (List Int × List Int)) (t : Int), GrowI w F t → n = (knotsF w).length - t.toNat → ∃ t', GrowI w (bfsL w n F t) t' ∧ ((bfsL w n F t).length : Int) ≤ t'
  | 0, F, t, G, e => ⟨t, G, by have := G.len hw; have := G.t0; show (F.length : Int) ≤ t; omega⟩
  | n + 1, F, t, G, e => by
    have gl := G.len hw
    have t0 := G.t0
    by_cases h : t < F.length
    · unfold bfsL
      rw [if_pos h]
      exact bfs_ok hw n _ _ (G.step h) (by omega)
    · rw [bfs_end h]; exact ⟨t, G, by omega⟩
theorem grownF_ok {w : Web} (hw : IsWeb w) : ∃ t, GrowI w (grownF w) t ∧ ((grownF w).length : Int) ≤ t := bfs_ok hw _ _ _ (GrowI.start w) (by simp)
end TY

/-! Whether a thing of any kind is a knot, a hueing. -/
namespace TY
open PySem PySem.Spec L2 DL
def gd : D → Prop
  | .opq _ => False
  | .dK _ => False
  | .dT _ => False
  | .scr _ => False
  | _ => True
def shal (d : D) : Prop := gd d ∧ match d with
  | .tup l => (∀ x ∈ l, gd x) ∧ l.length ≤ 1000000
  | .lst l => (∀ x ∈ l, gd x) ∧ l.length ≤ 1000000
  | _ => True
def wholeF : D → Bool
  | .int _ => true
  | _ => false
def wholeP (d : D) : Prop := gd d
theorem ty_int {d : D} (h : gd d) : tyOk d "int" ∧ tyOk d "bool" ∧ (tyB d "int" && !tyB d "bool") = wholeF d := by
  cases d with
  | opq v => exact h.elim
  | dK l => exact h.elim
  | dT l => exact h.elim
  | scr l => exact h.elim
  | non => exact ⟨by show (isiB "NoneType" "int").isSome = true; rw [isi_NoneType_int]; rfl, by show (isiB "NoneType" "bool").isSome = true; rw [isi_NoneType_bool]; rfl, by show ((isiB "NoneType" "int").getD false && !(isiB "NoneType" "bool").getD false) = false; rw [isi_NoneType_int]; rfl⟩
  | bl b => exact ⟨by show (isiB "bool" "int").isSome = true; rw [isi_bool_int]; rfl, by show (isiB "bool" "bool").isSome = true; rw [isi_bool_bool]; rfl, by show ((isiB "bool" "int").getD false && !(isiB "bool" "bool").getD false) = false; rw [isi_bool_int, isi_bool_bool]; rfl⟩
  | int i => exact ⟨by show (isiB "int" "int").isSome = true; rw [isi_int_int]; rfl, by show (isiB "int" "bool").isSome = true; rw [isi_int_bool]; rfl, by show ((isiB "int" "int").getD false && !(isiB "int" "bool").getD false) = true; rw [isi_int_int, isi_int_bool]; rfl⟩
  | str x => exact ⟨by show (isiB "str" "int").isSome = true; rw [isi_str_int]; rfl, by show (isiB "str" "bool").isSome = true; rw [isi_str_bool]; rfl, by show ((isiB "str" "int").getD false && !(isiB "str" "bool").getD false) = false; rw [isi_str_int]; rfl⟩
  | tup l => exact ⟨by show (isiB "tuple" "int").isSome = true; rw [isi_tuple_int]; rfl, by show (isiB "tuple" "bool").isSome = true; rw [isi_tuple_bool]; rfl, by show ((isiB "tuple" "int").getD false && !(isiB "tuple" "bool").getD false) = false; rw [isi_tuple_int]; rfl⟩
  | lst l => exact ⟨by show (isiB "list" "int").isSome = true; rw [isi_list_int]; rfl, by show (isiB "list" "bool").isSome = true; rw [isi_list_bool]; rfl, by show ((isiB "list" "int").getD false && !(isiB "list" "bool").getD false) = false; rw [isi_list_int]; rfl⟩
def isTupB : D → Bool
  | .tup _ => true
  | _ => false
theorem isTup_of {d : D} (h : isTupB d = true) : ∃ l, d = .tup l := by
  cases d with
  | tup l => exact ⟨l, rfl⟩
  | _ => cases h
theorem whole_of {d : D} (h : wholeF d = true) : ∃ i, d = .int i := by
  cases d with
  | int i => exact ⟨i, rfl⟩
  | _ => cases h
theorem ty_tup {d : D} (h : gd d) : tyOk d "tuple" ∧ tyB d "tuple" = isTupB d := by
  cases d with
  | opq v => exact h.elim
  | dK l => exact h.elim
  | dT l => exact h.elim
  | scr l => exact h.elim
  | non => exact ⟨by show (isiB "NoneType" "tuple").isSome = true; rw [isi_NoneType_tuple]; rfl, by show (isiB "NoneType" "tuple").getD false = false; rw [isi_NoneType_tuple]; rfl⟩
  | bl b => exact ⟨by show (isiB "bool" "tuple").isSome = true; rw [isi_bool_tuple]; rfl, by show (isiB "bool" "tuple").getD false = false; rw [isi_bool_tuple]; rfl⟩
  | int i => exact ⟨by show (isiB "int" "tuple").isSome = true; rw [isi_int_tuple]; rfl, by show (isiB "int" "tuple").getD false = false; rw [isi_int_tuple]; rfl⟩
  | str x => exact ⟨by show (isiB "str" "tuple").isSome = true; rw [isi_str_tuple]; rfl, by show (isiB "str" "tuple").getD false = false; rw [isi_str_tuple]; rfl⟩
  | tup l => exact ⟨by show (isiB "tuple" "tuple").isSome = true; rw [isi_tuple_tuple]; rfl, by show (isiB "tuple" "tuple").getD false = true; rw [isi_tuple_tuple]; rfl⟩
  | lst l => exact ⟨by show (isiB "list" "tuple").isSome = true; rw [isi_list_tuple]; rfl, by show (isiB "list" "tuple").getD false = false; rw [isi_list_tuple]; rfl⟩
noncomputable def isKnotD (w : Web) (d : D) : Bool := @decide (∃ k, d = eU D.int k ∧ isK w w.1 k) (Classical.propDecidable _)
structure isKnotP (w : Web) (d : D) : Prop where
  isw : IsWeb w
  n24 : w.1 ≤ 24
  sh : shal d
theorem isKnotD_iff {w : Web} {d : D} : isKnotD w d = true ↔ ∃ k, d = eU D.int k ∧ isK w w.1 k := by
  unfold isKnotD; exact @decide_eq_true_iff _ (Classical.propDecidable _)
theorem isKnotD_int {w : Web} {k : List Int} : isKnotD w (eU D.int k) = true ↔ isK w w.1 k := by
  rw [isKnotD_iff]
  exact ⟨fun ⟨k', e, h⟩ => by rw [eU_inj int_inj _ _ e]; exact h, fun h => ⟨k, rfl, h⟩⟩
theorem shal_ints {k : List Int} (h : k.length ≤ 1000000) : shal (eU D.int k) := ⟨trivial, fun x mx => by obtain ⟨i, _, rfl⟩ := List.mem_map.mp mx; exact trivial, by rw [List.length_map]; exact h⟩
theorem cut_lo' {α : Type} {l : List α} {i : Int} (h0 : 0 ≤ i) (h : i ≤ l.length) : cutL l none (some i) = l.take i.toNat := by
  unfold cutL
  rw [show HT.sIx l.length 0 none = 0 from rfl, show HT.sIx l.length l.length (some i) = if i < 0 then (i + (l.length : Int)).toNat else min i.toNat l.length from rfl, if_neg (by omega), Nat.min_eq_left (by omega)]
  rfl
theorem cut_hi' {α : Type} {l : List α} {i : Int} (h0 : 0 ≤ i) (h : i ≤ l.length) : cutL l (some i) none = l.drop i.toNat := by
  unfold cutL
  rw [show HT.sIx l.length l.length none = l.length from rfl, show HT.sIx l.length 0 (some i) = if i < 0 then (i + (l.length : Int)).toNat else min i.toNat l.length from rfl, if_neg (by omega), Nat.min_eq_left (by omega)]
  exact List.take_of_length_le (by rw [List.length_drop]; omega)
/-- the right hueings -/
structure isHue (w : Web) (h : List Int) : Prop where
  len : (h.length : Int) = w.1
  rng : ∀ x ∈ h, 0 ≤ x ∧ x < w.1
  pr : ∀ t ∈ w.2, gi h t.1 ≠ gi h t.2
noncomputable def isHueD (w : Web) (d : D) : Bool := @decide (∃ k, d = eU D.int k ∧ isHue w k) (Classical.propDecidable _)
structure isHueP (w : Web) (d : D) : Prop where
  isw : IsWeb w
  n24 : w.1 ≤ 24
  sh : shal d
theorem isHueD_iff {w : Web} {d : D} : isHueD w d = true ↔ ∃ k, d = eU D.int k ∧ isHue w k := by
  unfold isHueD; exact @decide_eq_true_iff _ (Classical.propDecidable _)
theorem isHueD_int {w : Web} {k : List Int} : isHueD w (eU D.int k) = true ↔ isHue w k := by
  rw [isHueD_iff]
  exact ⟨fun ⟨k', e, h⟩ => by rw [eU_inj int_inj _ _ e]; exact h, fun h => ⟨k, rfl, h⟩⟩
theorem ienum_at {α : Type} {L : List α} {pre : List (Int × α)} {p : Int × α} {post : List (Int × α)} (e : ienum L = pre ++ p :: post) : pre.length < L.length ∧ p.1 = (pre.length : Int) ∧ L[pre.length]? = some p.2 := by
  have h1 : (ienum L)[pre.length]? = some p := by rw [e]; simp
  unfold ienum at h1
  rw [List.getElem?_map, List.getElem?_zipIdx] at h1
  cases q : L[pre.length]? with
  | none => rw [q] at h1; cases h1
  | some x =>
    rw [q] at h1
    have h2 : ((0 + pre.length : Nat) : Int) = p.1 ∧ x = p.2 := Prod.ext_iff.mp (Option.some.inj h1)
    exact ⟨(List.getElem?_eq_some_iff.mp q).1, by omega, by rw [h2.2]⟩
theorem whole_ints {l : List D} (h : ∀ x ∈ l, wholeF x = true) : ∃ k : List Int, l = k.map D.int := by
  induction l with
  | nil => exact ⟨[], rfl⟩
  | cons x r ih =>
    obtain ⟨k, e⟩ := ih fun y my => h y (by simp [my])
    obtain ⟨i, ei⟩ := whole_of (h x (by simp))
    exact ⟨i :: k, by rw [e, ei]; rfl⟩
end TY
namespace TY
open PySem PySem.Spec L2 DL
/-- one list lies within another -/
def withinF (a b : List Int) : Bool := decide ((a.filter fun p => !inl p b) = [])
def withinP (a _ : List Int) : Prop := a.length ≤ 1000000
theorem within_iff {a b : List Int} : withinF a b = true ↔ ∀ x ∈ a, x ∈ b := by
  unfold withinF
  rw [decide_eq_true_eq, List.filter_eq_nil_iff]
  exact ⟨fun h x m => inl_iff.mp (by have := h x m; revert this; cases inl x b <;> simp), fun h x m => by rw [inl_iff.mpr (h x m)]; simp⟩
end TY

/-! The most places of a knot: places by rising hues, the search. -/
namespace TY
open PySem PySem.Spec L2 DL
/-! first fit -/
def fitA (w : Web) (p : Int) : List (List Int) → Nat
  | [] => 0
  | c :: r => if c.any (fun o => tie w p o) = true then fitA w p r + 1 else 0
def fitP (w : Web) (cl : List (List Int)) (p : Int) : List (List Int) :=
  if fitA w p cl = cl.length then cl ++ [[p]] else cl.set (fitA w p cl) (gi cl (fitA w p cl : Nat) ++ [p])
def fitF (w : Web) (ps : List Int) : List (List Int) := ps.foldl (fitP w) []
def firstF (w : Web) (ps : List Int) : List (Int × Int) := (ienum (fitF w ps)).flatMap fun c => c.2.map fun p => (p, c.1 + 1)
theorem fitA_cons (w : Web) (p : Int) (c : List Int) (r : List (List Int)) : fitA w p (c :: r) = if c.any (fun o => tie w p o) = true then fitA w p r + 1 else 0 := rfl
theorem gi_cons0 {α : Type} [Inhabited α] (c : α) (r : List α) : gi (c :: r) ((0 : Nat) : Int) = c := by rw [gi_nat (by simp)]; rfl
theorem gi_consS {α : Type} [Inhabited α] (c : α) (r : List α) {k : Nat} (h : k < r.length) : gi (c :: r) ((k + 1 : Nat) : Int) = gi r (k : Nat) := by
  rw [gi_nat (by simp; omega), gi_nat h]; rfl
theorem fitA_le (w : Web) (p : Int) : ∀ cl, fitA w p cl ≤ cl.length
  | [] => Nat.le_refl _
  | c :: r => by
    rw [fitA_cons]
    have := fitA_le w p r
    split <;> simp <;> omega
theorem fitA_free (w : Web) (p : Int) : ∀ cl, fitA w p cl < cl.length → ∀ o ∈ gi cl (fitA w p cl : Nat), tie w p o = false
  | [], h => by simp at h
  | c :: r, h => by
    rw [fitA_cons] at h ⊢
    by_cases hc : c.any (fun o => tie w p o) = true
    · rw [if_pos hc] at h ⊢
      have h1 : fitA w p r < r.length := by simp at h; omega
      rw [gi_consS c r h1]
      exact fitA_free w p r h1
    · rw [if_neg hc, gi_cons0]
      intro o mo
      simp only [List.any_eq_true, not_exists, not_and] at hc
      exact Bool.eq_false_iff.mpr (hc o mo)
theorem fitA_drop {w : Web} {p : Int} : ∀ {cl : List (List Int)} {k : Nat}, k ≤ fitA w p cl → fitA w p cl = k + fitA w p (cl.drop k)
  | _, 0, _ => by simp
  | [], k + 1, h => by simp [fitA] at h
  | c :: r, k + 1, h => by
    rw [fitA_cons] at h ⊢
    by_cases hc : c.any (fun o => tie w p o) = true
    · rw [if_pos hc] at h ⊢
      rw [List.drop_succ_cons]
      have := fitA_drop (w := w) (p := p) (cl := r) (k := k) (by omega)
      omega
    · rw [if_neg hc] at h; omega
theorem fitA_step {w : Web} {p : Int} {cl : List (List Int)} {k : Nat} (h : k ≤ fitA w p cl) (hl : k < cl.length) : ((gi cl (k : Nat)).any (fun o => tie w p o) = true ↔ k + 1 ≤ fitA w p cl) := by
  have e := fitA_drop h
  rw [List.drop_eq_getElem_cons hl, fitA_cons] at e
  rw [gi_nat hl]
  by_cases hc : (cl[k]).any (fun o => tie w p o) = true
  · rw [if_pos hc] at e
    exact ⟨fun _ => by omega, fun _ => hc⟩
  · rw [if_neg hc] at e
    exact ⟨fun z => absurd z hc, fun z => by omega⟩
/-- the classes so far -/
structure FitI (w : Web) (pre : List Int) (cl : List (List Int)) : Prop where
  pm : cl.flatten.Perm pre
  ap : ∀ c ∈ cl, ∀ a ∈ c, ∀ b ∈ c, a ≠ b → tie w a b = false
  ln : cl.length ≤ pre.length
theorem set_flatten {x : Int} : ∀ (cl : List (List Int)) (k : Nat), k < cl.length → (cl.set k (gi cl (k : Nat) ++ [x])).flatten.Perm (cl.flatten ++ [x])
  | [], k, h => by simp at h
  | c :: r, 0, _ => by
    rw [gi_cons0]
    show (((c ++ [x]) :: r).flatten).Perm _
    simp only [List.flatten_cons, List.append_assoc]
    exact List.Perm.append_left c List.perm_append_comm
  | c :: r, k + 1, h => by
    have hk : k < r.length := by simpa using h
    rw [gi_consS c r hk]
    show ((c :: r.set k (gi r (k : Nat) ++ [x])).flatten).Perm _
    simp only [List.flatten_cons, List.append_assoc]
    exact List.Perm.append_left c (set_flatten r k hk)
theorem FitI.step {w : Web} {pre : List Int} {cl : List (List Int)} {p : Int} (I : FitI w pre cl) : FitI w (pre ++ [p]) (fitP w cl p) := by
  unfold fitP
  by_cases h : fitA w p cl = cl.length
  · rw [if_pos h]
    refine ⟨?_, fun c mc => ?_, by simp; exact I.ln⟩
    · rw [List.flatten_append]
      exact I.pm.append (by simp)
    · rcases List.mem_append.mp mc with mc | mc
      · exact I.ap c mc
      · rw [List.mem_singleton.mp mc]
        intro a ha b hb ne
        exact absurd ((List.mem_singleton.mp ha).trans (List.mem_singleton.mp hb).symm) ne
  · rw [if_neg h]
    have hl : fitA w p cl < cl.length := by have := fitA_le w p cl; omega
    have fr := fitA_free w p cl hl
    refine ⟨(set_flatten cl _ hl).trans (I.pm.append_right _), fun c mc => ?_, by rw [List.length_set, List.length_append]; have := I.ln; omega⟩
    rcases List.mem_or_eq_of_mem_set mc with mc | rfl
    · exact I.ap c mc
    · have mg : gi cl (fitA w p cl : Nat) ∈ cl := gi_mem (by omega) (by omega)
      intro a ha b hb ne
      rcases List.mem_append.mp ha with ha | ha <;> rcases List.mem_append.mp hb with hb | hb
      · exact I.ap _ mg a ha b hb ne
      · rw [List.mem_singleton.mp hb, tie_comm]; exact fr a ha
      · rw [List.mem_singleton.mp ha]; exact fr b hb
      · exact absurd ((List.mem_singleton.mp ha).trans (List.mem_singleton.mp hb).symm) ne
theorem fit_pre (w : Web) : ∀ (ps pre : List Int) (cl : List (List Int)), FitI w pre cl → FitI w (pre ++ ps) (ps.foldl (fitP w) cl)
  | [], pre, cl, I => by simpa using I
  | p :: r, pre, cl, I => by
    have := fit_pre w r (pre ++ [p]) _ I.step
    simpa using this
theorem fitI (w : Web) (ps : List Int) : FitI w ps (fitF w ps) := by
  have := fit_pre w ps [] [] ⟨.refl _, fun _ m => (by cases m), Nat.le_refl _⟩
  rw [List.nil_append] at this
  exact this
theorem first_fst (w : Web) (ps : List Int) : (firstF w ps).map (·.1) = (fitF w ps).flatten := by
  unfold firstF
  rw [List.map_flatMap]
  have e : (ienum (fitF w ps)).flatMap (fun c => (c.2.map fun p => (p, c.1 + 1)).map (·.1)) = (ienum (fitF w ps)).flatMap fun c => c.2 := by
    congr 1; funext c; rw [List.map_map]; exact List.map_id _
  rw [e, List.flatMap_def]
  congr 1
  unfold ienum
  rw [List.map_map]
  exact List.zipIdx_map_fst 0 _
theorem first_perm (w : Web) (ps : List Int) : ((firstF w ps).map (·.1)).Perm ps := by rw [first_fst]; exact (fitI w ps).pm
theorem mem_first {w : Web} {ps : List Int} {x : Int × Int} : x ∈ firstF w ps ↔ (1 ≤ x.2 ∧ x.2 ≤ (fitF w ps).length) ∧ x.1 ∈ gi (fitF w ps) (x.2 - 1) := by
  unfold firstF
  rw [List.mem_flatMap]
  constructor
  · rintro ⟨c, mc, mx⟩
    obtain ⟨h0, h1, e⟩ := mem_ienum.mp mc
    obtain ⟨p, mp, rfl⟩ := List.mem_map.mp mx
    refine ⟨⟨by show 1 ≤ c.1 + 1; omega, by show c.1 + 1 ≤ _; omega⟩, ?_⟩
    show p ∈ gi (fitF w ps) (c.1 + 1 - 1)
    rw [show c.1 + 1 - 1 = c.1 by omega, e]; exact mp
  · rintro ⟨⟨h0, h1⟩, m⟩
    exact ⟨(x.2 - 1, gi (fitF w ps) (x.2 - 1)), mem_ienum.mpr ⟨by show 0 ≤ x.2 - 1; omega, by show x.2 - 1 < _; omega, rfl⟩, List.mem_map.mpr ⟨x.1, m, Prod.ext rfl (by show x.2 - 1 + 1 = x.2; omega)⟩⟩
theorem first_apart {w : Web} {ps : List Int} {x y : Int × Int} (hx : x ∈ firstF w ps) (hy : y ∈ firstF w ps) (e : x.2 = y.2) (ne : x.1 ≠ y.1) : tie w x.1 y.1 = false := by
  obtain ⟨⟨h0, h1⟩, m⟩ := mem_first.mp hx
  obtain ⟨_, m'⟩ := mem_first.mp hy
  rw [← e] at m'
  exact (fitI w ps).ap _ (gi_mem (by omega) (by omega)) _ m _ m' ne
theorem first_rise (w : Web) (ps : List Int) : (firstF w ps).Pairwise fun x y => x.2 ≤ y.2 := by
  unfold firstF
  rw [List.flatMap_def, List.pairwise_flatten]
  refine ⟨fun l ml => ?_, ?_⟩
  · obtain ⟨c, _, rfl⟩ := List.mem_map.mp ml
    refine List.pairwise_map.mpr (List.pairwise_iff_forall_sublist.mpr fun _ => Int.le_refl _)
  · refine List.pairwise_map.mpr ?_
    have up : ((ienum (fitF w ps)).map (·.1)).Pairwise (· < ·) := by rw [ienum_fst]; exact irange_sorted _ _
    refine (List.pairwise_map.mp up).imp fun {a b} h x mx y my => ?_
    obtain ⟨p, _, rfl⟩ := List.mem_map.mp mx
    obtain ⟨q, _, rfl⟩ := List.mem_map.mp my
    show a.1 + 1 ≤ b.1 + 1; omega
theorem first_len (w : Web) (ps : List Int) : (firstF w ps).length = ps.length := by
  have := (first_perm w ps).length_eq
  rwa [List.length_map] at this
/-! knots as sets -/
structure Cl (w : Web) (K : List Int) : Prop where
  nd : K.Nodup
  rng : ∀ a ∈ K, 0 ≤ a ∧ a < w.1
  td : ∀ a ∈ K, ∀ b ∈ K, a ≠ b → tie w a b = true
theorem Cl.nil (w : Web) : Cl w [] := ⟨.nil, fun _ m => (by cases m), fun _ m => (by cases m)⟩
theorem Cl.sub {w : Web} {K L : List Int} (h : Cl w K) (nd : L.Nodup) (s : ∀ a ∈ L, a ∈ K) : Cl w L := ⟨nd, fun a m => h.rng a (s a m), fun a ma b mb => h.td a (s a ma) b (s b mb)⟩
theorem Cl.snoc {w : Web} (hw : IsWeb w) {K : List Int} {p : Int} (h : Cl w K) (hp : 0 ≤ p ∧ p < w.1) (ht : ∀ b ∈ K, tie w p b = true) : Cl w (K ++ [p]) := by
  have np : p ∉ K := fun m => by have := ht p m; rw [tie_self hw] at this; cases this
  refine ⟨List.nodup_append.mpr ⟨h.nd, by simp, fun a ha b hb e => by rw [List.mem_singleton.mp hb] at e; subst e; exact np ha⟩, fun a ma => ?_, fun a ma b mb ne => ?_⟩
  · rcases List.mem_append.mp ma with ma | ma
    · exact h.rng a ma
    · rw [List.mem_singleton.mp ma]; exact hp
  · rcases List.mem_append.mp ma with ma | ma <;> rcases List.mem_append.mp mb with mb | mb
    · exact h.td a ma b mb ne
    · rw [List.mem_singleton.mp mb, tie_comm]; exact ht a ma
    · rw [List.mem_singleton.mp ma]; exact ht b mb
    · exact absurd ((List.mem_singleton.mp ma).trans (List.mem_singleton.mp mb).symm) ne
theorem Cl.len {w : Web} {K : List Int} (h : Cl w K) (h0 : 0 ≤ w.1) : (K.length : Int) ≤ w.1 := by
  have := nodup_sub_len K (irange 0 w.1) h.nd fun a m => mem_irange.mpr (h.rng a m)
  rw [irange_length] at this; omega
/-- a knot among places with hues up to h has at most h places -/
theorem hue_bound {w : Web} {ps : List Int} {r : List (Int × Int)} {h : Int} (hr : ∀ x ∈ r, x ∈ firstF w ps) (hh : ∀ x ∈ r, x.2 ≤ h) {S : List Int} (cs : Cl w S) (hs : ∀ a ∈ S, a ∈ r.map (·.1)) : (S.length : Int) ≤ max h 0 := by
  have key : ∀ a ∈ S, ∃ x ∈ r, x.1 = a := fun a m => by
    obtain ⟨x, mx, e⟩ := List.mem_map.mp (hs a m); exact ⟨x, mx, e⟩
  have hue : ∃ f : Int → Int, ∀ a ∈ S, (a, f a) ∈ r := by
    refine ⟨fun a => ((r.find? fun x => x.1 == a).map (·.2)).getD 0, fun a m => ?_⟩
    obtain ⟨x, mx, e⟩ := key a m
    cases q : r.find? fun x => x.1 == a with
    | none => rw [List.find?_eq_none] at q; exact absurd (by simp [e]) (q x mx)
    | some y =>
      have h1 := List.find?_some q
      have h2 := List.mem_of_find?_eq_some q
      have : y.1 = a := by simpa using h1
      show (a, ((r.find? fun x => x.1 == a).map (·.2)).getD 0) ∈ r
      rw [q]
      show (a, y.2) ∈ r
      rw [← this]; exact h2
  obtain ⟨f, hf⟩ := hue
  have := nodup_sub_len (S.map f) (irange 1 (h + 1)) (map_nodup cs.nd fun a ha b hb e => Classical.byContradiction fun ne => by
    have t := cs.td a ha b hb ne
    have := first_apart (hr _ (hf a ha)) (hr _ (hf b hb)) e ne
    rw [this] at t; cases t) fun y my => by
      obtain ⟨a, ma, rfl⟩ := List.mem_map.mp my
      have h1 := (mem_first.mp (hr _ (hf a ma))).1
      have h2 := hh _ (hf a ma)
      exact mem_irange.mpr ⟨h1.1, by show f a < h + 1; have : f a ≤ h := h2; omega⟩
  rw [List.length_map, irange_length] at this
  omega
/-! the search -/
def nextL (w : Web) (p : Int) (r : List (Int × Int)) : List Int := (r.filter fun x => tie w p x.1).map fun x => x.1
/-- the places not yet looked at stand in r, the last one ahead -/
def growL (w : Web) (rec : List Int → List Int → List Int → List Int) (knot : List Int) : List (Int × Int) → List Int → List Int
  | [], b => b
  | x :: r, b => if (knot.length : Int) + x.2 ≤ (b.length : Int) then b else growL w rec knot r (rec b (knot ++ [x.1]) (nextL w x.1 r.reverse))
def betK (knot best : List Int) : List Int := if (best.length : Int) < (knot.length : Int) then knot else best
def growF (w : Web) : Nat → List Int → List Int → List Int → List Int
  | 0, best, _, _ => best
  | D + 1, best, knot, left => growL w (growF w D) knot (firstF w left).reverse (betK knot best)
structure GrowO (w : Web) (best knot left res : List Int) : Prop where
  cl : Cl w res
  up : best.length ≤ res.length
  top : ∀ S, Cl w S → (∀ a ∈ S, a ∈ left) → knot.length + S.length ≤ res.length
theorem growL_ok {w : Web} (hw : IsWeb w) {knot left : List Int} {rec : List Int → List Int → List Int → List Int} (ck : Cl w knot) (ndl : left.Nodup) (rl : ∀ a ∈ left, 0 ≤ a ∧ a < w.1) (tl : ∀ a ∈ left, ∀ b ∈ knot, tie w a b = true)
    (hrec : ∀ b k l, l.length < left.length → l.Nodup → (∀ a ∈ l, 0 ≤ a ∧ a < w.1) → (∀ a ∈ l, ∀ b ∈ k, tie w a b = true) → Cl w k → Cl w b → GrowO w b k l (rec b k l)) :
    ∀ (rr : List (Int × Int)) (post : List (Int × Int)) (b : List Int), rr.reverse ++ post = firstF w left → Cl w b → knot.length ≤ b.length → (∀ S, Cl w S → (∀ a ∈ S, a ∈ left) → (∃ a ∈ S, a ∉ rr.map (·.1)) → knot.length + S.length ≤ b.length) →
      GrowO w b knot left (growL w rec knot rr b)
  | [], post, b, e, cb, kb, hb => by
    refine ⟨cb, Nat.le_refl _, fun S cS sS => ?_⟩
    cases S with
    | nil => show knot.length + 0 ≤ b.length; omega
    | cons a r => exact hb _ cS sS ⟨a, by simp, by simp⟩
  | x :: rr, post, b, e, cb, kb, hb => by
    unfold growL
    have mx : ∀ y ∈ x :: rr, y ∈ firstF w left := fun y my => by
      rw [← e]; simp only [List.mem_append, List.mem_reverse]; exact .inl my
    have ml : ∀ y ∈ x :: rr, y.1 ∈ left := fun y my => (first_perm w left).mem_iff.mp (List.mem_map.mpr ⟨y, mx y my, rfl⟩)
    have rise : ∀ y ∈ x :: rr, y.2 ≤ x.2 := fun y my => by
      rcases List.mem_cons.mp my with rfl | my
      · exact Int.le_refl _
      · have h := first_rise w left
        rw [← e, List.reverse_cons] at h
        exact (List.pairwise_append.mp (List.pairwise_append.mp h).1).2.2 y (by simpa using my) x (by simp)
    have nd : ((x :: rr).map (·.1)).Nodup := by
      have h : ((firstF w left).map (·.1)).Nodup := (first_perm w left).nodup_iff.mpr ndl
      rw [← e, List.map_append, List.map_reverse] at h
      exact (List.reverse_perm _).nodup_iff.mp (List.nodup_append.mp h).1
    by_cases hc : (knot.length : Int) + x.2 ≤ (b.length : Int)
    · rw [if_pos hc]
      refine ⟨cb, Nat.le_refl _, fun S cS sS => ?_⟩
      by_cases ex : ∃ a ∈ S, a ∉ (x :: rr).map (·.1)
      · exact hb S cS sS ex
      · have all : ∀ a ∈ S, a ∈ (x :: rr).map (·.1) := fun a ma => Classical.byContradiction fun z => ex ⟨a, ma, z⟩
        have := hue_bound mx rise cS all
        have x1 := (mem_first.mp (mx x (by simp))).1.1
        omega
    · rw [if_neg hc]
      have lx := ml x (by simp)
      have nx : x.1 ∉ rr.map (·.1) := (List.nodup_cons.mp nd).1
      have mn : ∀ a, a ∈ nextL w x.1 rr.reverse ↔ a ∈ rr.map (·.1) ∧ tie w x.1 a = true := fun a => by
        unfold nextL
        rw [List.mem_map]
        constructor
        · rintro ⟨y, my, rfl⟩
          obtain ⟨h1, h2⟩ := List.mem_filter.mp my
          exact ⟨List.mem_map.mpr ⟨y, by simpa using h1, rfl⟩, h2⟩
        · rintro ⟨h1, h2⟩
          obtain ⟨y, my, rfl⟩ := List.mem_map.mp h1
          exact ⟨y, List.mem_filter.mpr ⟨by simpa using my, h2⟩, rfl⟩
      have ndn : (nextL w x.1 rr.reverse).Nodup := by
        unfold nextL
        have h : (rr.reverse.map (·.1)).Nodup := by rw [List.map_reverse]; exact (List.reverse_perm _).nodup_iff.mpr (List.nodup_cons.mp nd).2
        exact h.sublist (List.filter_sublist.map _)
      have sub : ∀ a ∈ nextL w x.1 rr.reverse, a ∈ left := fun a ma => by
        obtain ⟨h1, _⟩ := (mn a).mp ma
        obtain ⟨y, my, rfl⟩ := List.mem_map.mp h1
        exact ml y (by simp [my])
      have short : (nextL w x.1 rr.reverse).length < left.length := by
        have := nodup_sub_len (x.1 :: nextL w x.1 rr.reverse) left (List.nodup_cons.mpr ⟨fun m => nx ((mn _).mp m).1, ndn⟩) fun a ma => by
          rcases List.mem_cons.mp ma with rfl | ma
          · exact lx
          · exact sub a ma
        rw [List.length_cons] at this; omega
      have ck2 : Cl w (knot ++ [x.1]) := ck.snoc hw (rl _ lx) (tl _ lx)
      have R := hrec b (knot ++ [x.1]) (nextL w x.1 rr.reverse) short ndn (fun a ma => rl a (sub a ma)) (fun a ma c mc => by
        rcases List.mem_append.mp mc with mc | mc
        · exact tl a (sub a ma) c mc
        · rw [List.mem_singleton.mp mc, tie_comm]; exact ((mn a).mp ma).2) ck2 cb
      have kb2 : knot.length ≤ (rec b (knot ++ [x.1]) (nextL w x.1 rr.reverse)).length := Nat.le_trans kb R.up
      have G := growL_ok hw ck ndl rl tl hrec rr (x :: post) (rec b (knot ++ [x.1]) (nextL w x.1 rr.reverse)) (by rw [← e]; simp) R.cl kb2 fun S cS sS ex => by
        obtain ⟨a, ma, na⟩ := ex
        by_cases ex2 : ∃ a ∈ S, a ∉ (x :: rr).map (·.1)
        · exact Nat.le_trans (hb S cS sS ex2) R.up
        · have all : ∀ a ∈ S, a ∈ (x :: rr).map (·.1) := fun a ma => Classical.byContradiction fun z => ex2 ⟨a, ma, z⟩
          have ax : a = x.1 := by
            have := all a ma
            rw [List.map_cons] at this
            rcases List.mem_cons.mp this with h | h
            · exact h
            · exact absurd h na
          subst ax
          have t := R.top (S.erase x.1) (cS.sub (cS.nd.erase _) fun a m => List.mem_of_mem_erase m) fun c mc => by
            have mc2 : c ∈ S := List.mem_of_mem_erase mc
            have ne : c ≠ x.1 := fun z => by rw [z] at mc; exact (cS.nd.not_mem_erase) mc
            refine (mn c).mpr ⟨?_, cS.td _ ma _ mc2 (Ne.symm ne)⟩
            have := all c mc2
            rw [List.map_cons] at this
            rcases List.mem_cons.mp this with h | h
            · exact absurd h ne
            · exact h
          rw [List.length_append, List.length_erase_of_mem ma] at t
          have : 0 < S.length := List.length_pos_of_mem ma
          simp at t; omega
      exact ⟨G.cl, Nat.le_trans R.up G.up, G.top⟩
theorem growF_ok {w : Web} (hw : IsWeb w) : ∀ (D : Nat) (best knot left : List Int), left.length < D → left.Nodup → (∀ a ∈ left, 0 ≤ a ∧ a < w.1) → (∀ a ∈ left, ∀ b ∈ knot, tie w a b = true) → Cl w knot → Cl w best → GrowO w best knot left (growF w D best knot left)
  | 0, _, _, _, h, _, _, _, _, _ => by omega
  | D + 1, best, knot, left, hD, nd, rl, tl, ck, cb => by
    unfold growF
    have cbk : Cl w (betK knot best) := by unfold betK; split <;> assumption
    have kb : knot.length ≤ (betK knot best).length ∧ best.length ≤ (betK knot best).length := by unfold betK; split <;> omega
    have G := growL_ok hw ck nd rl tl (rec := growF w D) (fun b k l hl n r t c1 c2 => growF_ok hw D b k l (by omega) n r t c1 c2) (firstF w left).reverse [] (betK knot best) (by simp) cbk kb.1 fun S cS sS ⟨a, ma, na⟩ => by
      refine absurd ?_ na
      rw [List.map_reverse, List.mem_reverse]
      exact (first_perm w left).mem_iff.mpr (sS a ma)
    exact ⟨G.cl, Nat.le_trans kb.2 G.up, G.top⟩
def bestF (w : Web) : List Int := growF w 30 [] [] (irange 0 w.1)
def mostF (w : Web) : Int × List Int := (((bestF w).length : Int), sortI (bestF w))
structure mostP (w : Web) : Prop where
  isw : IsWeb w
  n24 : w.1 ≤ 24
theorem bestF_ok {w : Web} (h : mostP w) : GrowO w [] [] (irange 0 w.1) (bestF w) :=
  growF_ok h.isw 30 [] [] (irange 0 w.1) (by have := irange_length 0 w.1; have := h.n24; omega) (irange_nodup _ _) (fun a m => mem_irange.mp m) (fun _ _ _ m => by cases m) (Cl.nil w) (Cl.nil w)
theorem isK.cl {w : Web} {k : List Int} (h : isK w w.1 k) : Cl w k := ⟨up_nodup h.up, h.rng, fun a ha b hb ne => by
  have key : ∀ {l : List Int}, l.Pairwise (fun a b => tie w a b = true) → ∀ a ∈ l, ∀ b ∈ l, a ≠ b → tie w a b = true := fun {l} h => by
    induction l with
    | nil => intro a m; cases m
    | cons x r ih =>
      obtain ⟨h1, h2⟩ := List.pairwise_cons.mp h
      intro a ha b hb ne
      rcases List.mem_cons.mp ha with ea | ha <;> rcases List.mem_cons.mp hb with eb | hb
      · exact absurd (ea.trans eb.symm) ne
      · rw [ea]; exact h1 b hb
      · rw [eb, tie_comm]; exact h1 a ha
      · exact ih h2 a ha b hb ne
  exact key h.tied a ha b hb ne⟩
theorem Cl.isK {w : Web} {k : List Int} (h : Cl w k) : TY.isK w w.1 (sortI k) := by
  have up : (sortI k).Pairwise (· < ·) := by
    have h1 := sortI_sorted k
    have h2 : (sortI k).Nodup := (sortI_perm k).nodup_iff.mpr h.nd
    refine (h1.and h2).imp fun {a b} z => ?_
    have := z.1; have := z.2; omega
  have mm : ∀ a, a ∈ sortI k ↔ a ∈ k := fun a => (sortI_perm k).mem_iff
  refine ⟨up, fun a m => h.rng a ((mm a).mp m), ?_⟩
  refine List.Pairwise.imp_of_mem ?_ up
  intro a b ma mb lt
  exact h.td a ((mm a).mp ma) b ((mm b).mp mb) (by omega)
/-- what is told: a knot, none has more places -/
structure MostO (w : Web) (r : Int × List Int) : Prop where
  k : isK w w.1 r.2
  len : (r.2.length : Int) = r.1
  top : ∀ S, Cl w S → (S.length : Int) ≤ r.1
theorem mostF_ok {w : Web} (h : mostP w) : MostO w (mostF w) := by
  have G := bestF_ok h
  refine ⟨G.cl.isK, ?_, fun S cS => ?_⟩
  · show ((sortI (bestF w)).length : Int) = ((bestF w).length : Int)
    rw [(sortI_perm _).length_eq]
  · have := G.top S cS fun a m => mem_irange.mpr (cS.rng a m)
    show (S.length : Int) ≤ ((bestF w).length : Int)
    simp at this; omega
theorem MostO.uniq {w : Web} {r s : Int × List Int} (h : MostO w r) (h' : MostO w s) : r.1 = s.1 := by
  have h1 := h.top s.2 h'.k.cl; have h2 := h'.top r.2 h.k.cl
  have := h.len; have := h'.len; omega
end TY
namespace TY
open PySem PySem.Spec L2 DL
theorem cut_lo {α : Type} {l : List α} {i : Int} (h0 : 0 ≤ i) (h : i ≤ l.length) : cutL l none (some i) = l.take i.toNat := by
  unfold cutL
  rw [show HT.sIx l.length 0 none = 0 from rfl, show HT.sIx l.length l.length (some i) = if i < 0 then (i + (l.length : Int)).toNat else min i.toNat l.length from rfl, if_neg (by omega), Nat.min_eq_left (by omega)]
  rfl
theorem cut_hi {α : Type} {l : List α} {i : Int} (h0 : 0 ≤ i) (h : i ≤ l.length) : cutL l (some i) none = l.drop i.toNat := by
  unfold cutL
  rw [show HT.sIx l.length l.length none = l.length from rfl, show HT.sIx l.length 0 (some i) = if i < 0 then (i + (l.length : Int)).toNat else min i.toNat l.length from rfl, if_neg (by omega), Nat.min_eq_left (by omega)]
  exact List.take_of_length_le (by rw [List.length_drop]; omega)
theorem ddI_of : ∀ {l : List Int}, l.Nodup → ddI l = l
  | [], _ => rfl
  | a :: r, h => by
    obtain ⟨h1, h2⟩ := List.nodup_cons.mp h
    unfold ddI
    rw [if_neg h1, ddI_of h2]
theorem putM_new {κ α : Type} [DecidableEq κ] {k : κ} {x : α} : ∀ {m : List (κ × α)}, k ∉ m.map (·.1) → putM m k x = m ++ [(k, x)]
  | [], _ => rfl
  | (k', v) :: r, h => by
    have h1 : k' ≠ k := fun e => h (by simp [e])
    have h2 : k ∉ r.map (·.1) := fun m => h (by simp only [List.map_cons, List.mem_cons]; exact .inr m)
    have ih := putM_new (x := x) h2
    show (if k' = k then _ else (k', v) :: putM r k x) = _
    rw [if_neg h1, ih]; rfl
/-- the most by all knots -/
def mostL (w : Web) : Int := maxL ((knotsF w).map fun k => (k.length : Int))
theorem mostL_eq {w : Web} (h : knotsP w) {r : Int × List Int} (O : MostO w r) : r.1 = mostL w := by
  have ne : (knotsF w).map (fun k => (k.length : Int)) ≠ [] := by
    have := (mem_knotsF h.isw []).mpr (isK.nil _ _)
    intro e
    rw [List.map_eq_nil_iff] at e
    rw [e] at this; cases this
  obtain ⟨m, u⟩ := maxL_spec ne
  refine Int.le_antisymm ?_ ?_
  · rw [← O.len]
    exact u _ (List.mem_map.mpr ⟨r.2, (mem_knotsF h.isw _).mpr O.k, rfl⟩)
  · obtain ⟨k, mk, ek⟩ := List.mem_map.mp m
    show maxL _ ≤ _
    rw [← ek]
    exact O.top k ((mem_knotsF h.isw _).mp mk).cl
end TY

/-! How many of each size. -/
namespace TY
open PySem PySem.Spec L2 DL
def hiN (ss : List Nat) : Nat := ss.foldr (fun x m => max (x + 1) m) 0
theorem hiN_le {m : Nat} : ∀ {ss : List Nat}, hiN ss ≤ m ↔ ∀ x ∈ ss, x + 1 ≤ m
  | [] => by simp [hiN]
  | x :: r => by
    have ih := hiN_le (m := m) (ss := r)
    have e : hiN (x :: r) = max (x + 1) (hiN r) := rfl
    simp only [List.mem_cons, forall_eq_or_imp, ← ih, e]
    omega
theorem hiN_mem {ss : List Nat} {x : Nat} (h : x ∈ ss) : x < hiN ss := hiN_le.mp (Nat.le_refl _) x h
theorem hiN_snoc (ss : List Nat) (x : Nat) : hiN (ss ++ [x]) = max (hiN ss) (x + 1) := by
  refine Nat.le_antisymm (hiN_le.mpr fun y hy => ?_) ?_
  · rcases List.mem_append.mp hy with hy | hy
    · have := hiN_mem hy; omega
    · rw [List.mem_singleton.mp hy]; omega
  · have h1 : hiN ss ≤ hiN (ss ++ [x]) := hiN_le.mpr fun y hy => hiN_mem (List.mem_append.mpr (.inl hy))
    have h2 : x < hiN (ss ++ [x]) := hiN_mem (by simp)
    omega
def cnts (ss : List Nat) : List Int := (List.range (hiN ss)).map fun i => ((ss.count i : Nat) : Int)
theorem cnts_len (ss : List Nat) : (cnts ss).length = hiN ss := by unfold cnts; simp
theorem cnts_get {ss : List Nat} {i : Nat} (h : i < (cnts ss).length) : (cnts ss)[i] = ((ss.count i : Nat) : Int) := by simp [cnts]
theorem cnts_snoc (ss : List Nat) (x : Nat) :
    (cnts ss ++ List.replicate (x + 1 - hiN ss) 0).set x (gi (cnts ss ++ List.replicate (x + 1 - hiN ss) 0) (x : Int) + 1) = cnts (ss ++ [x]) := by
  have yl : (cnts ss ++ List.replicate (x + 1 - hiN ss) (0 : Int)).length = max (hiN ss) (x + 1) := by rw [List.length_append, cnts_len, List.length_replicate]; omega
  have gy : ∀ i (h : i < (cnts ss ++ List.replicate (x + 1 - hiN ss) (0 : Int)).length), (cnts ss ++ List.replicate (x + 1 - hiN ss) (0 : Int))[i] = ((ss.count i : Nat) : Int) := fun i h => by
    rw [List.getElem_append]
    split
    · exact cnts_get _
    · rename_i hi
      rw [cnts_len] at hi
      rw [List.getElem_replicate, List.count_eq_zero.mpr fun m => by have := hiN_mem m; omega]; rfl
  rw [show gi (cnts ss ++ List.replicate (x + 1 - hiN ss) (0 : Int)) (x : Int) = ((ss.count x : Nat) : Int) by rw [gi_nat (by rw [yl]; omega), gy x (by rw [yl]; omega)]]
  refine List.ext_getElem (by rw [List.length_set, yl, cnts_len, hiN_snoc]) fun i h1 h2 => ?_
  have h3 : i < (cnts ss ++ List.replicate (x + 1 - hiN ss) (0 : Int)).length := by rw [List.length_set] at h1; exact h1
  rw [List.getElem_set, cnts_get, gy i h3, List.count_append, List.count_singleton]
  by_cases e : x = i
  · subst e; simp
  · rw [if_neg e]; simp [e]
theorem cnts_perm {ss tt : List Nat} (h : ss.Perm tt) : cnts ss = cnts tt := by
  have e : hiN ss = hiN tt := Nat.le_antisymm (hiN_le.mpr fun x hx => hiN_mem (h.mem_iff.mp hx)) (hiN_le.mpr fun x hx => hiN_mem (h.mem_iff.mpr hx))
  unfold cnts
  rw [e]
  exact List.map_congr_left fun i _ => by rw [h.count_eq]
theorem maxL_ok : ∀ {l : List Int}, l ≠ [] → maxL l ∈ l ∧ ∀ x ∈ l, x ≤ maxL l
  | [], h => absurd rfl h
  | [a], _ => by simp [maxL]
  | a :: b :: r, _ => by
    obtain ⟨m, u⟩ := maxL_ok (l := b :: r) (by simp)
    have e : maxL (a :: b :: r) = max a (maxL (b :: r)) := rfl
    rw [e]
    refine ⟨?_, fun x hx => ?_⟩
    · rcases Int.le_total a (maxL (b :: r)) with q | q
      · rw [Int.max_eq_right q]; exact List.mem_cons_of_mem _ m
      · rw [Int.max_eq_left q]; simp
    · rcases List.mem_cons.mp hx with rfl | hx
      · omega
      · have := u x hx; omega
theorem cast_count (ss : List Nat) (i : Nat) : (ss.map fun n : Nat => (n : Int)).count (i : Int) = ss.count i := by
  induction ss with
  | nil => rfl
  | cons a r ih =>
    rw [List.map_cons, List.count_cons, List.count_cons, ih]
    by_cases e : a = i
    · subst e; simp
    · have : ¬ (a : Int) = i := by omega
      simp [e, this]
theorem maxL_hi {ss : List Nat} (h : ss ≠ []) : maxL (ss.map fun n : Nat => (n : Int)) + 1 = hiN ss := by
  obtain ⟨m, u⟩ := maxL_ok (l := ss.map fun n : Nat => (n : Int)) (by simpa using h)
  obtain ⟨a, ma, ea⟩ := List.mem_map.mp m
  have h1 := hiN_mem ma
  have h2 : hiN ss ≤ a + 1 := hiN_le.mpr fun x hx => by
    have := u (x : Int) (List.mem_map.mpr ⟨x, hx, rfl⟩)
    omega
  omega
theorem due_cnts {ss : List Nat} (h : ss ≠ []) : ((irange 0 (maxL (ss.map fun n : Nat => (n : Int)) + 1)).map fun size => (((ss.map fun n : Nat => (n : Int)).count size : Nat) : Int)) = cnts ss := by
  rw [maxL_hi h]
  unfold irange cnts
  rw [List.map_map, show ((hiN ss : Nat) : Int) - 0 = hiN ss by omega, Int.toNat_natCast]
  refine List.map_congr_left fun i _ => ?_
  show (((ss.map fun n : Nat => (n : Int)).count (0 + (i : Int)) : Nat) : Int) = _
  rw [Int.zero_add, cast_count]
theorem GrowI.perm {w : Web} (hw : IsWeb w) {F : List (List Int × List Int)} {t : Int} (h : GrowI w F t) (ht : (F.length : Int) ≤ t) : (F.map (·.1)).Perm (knotsF w) :=
  (List.perm_ext_iff_of_nodup h.nd (knots_nodup w _)).mpr fun k => (h.done ht k).trans (mem_knotsF hw k).symm
end TY

/-! Full knots. -/
namespace TY
open PySem PySem.Spec L2 DL
def fullL (w : Web) : List (List Int) := ((grownF w).filter fun p => decide (p.2 = ([] : List Int))).map fun p => p.1
def fullF (w : Web) : List (List Int) := sortK (fullL w)
theorem mem_fullL {w : Web} (hw : IsWeb w) {k : List Int} : k ∈ fullL w ↔ isK w w.1 k ∧ commonL w k = [] := by
  obtain ⟨t, G, ht⟩ := grownF_ok hw
  unfold fullL
  rw [List.mem_map]
  constructor
  · rintro ⟨p, hp, rfl⟩
    obtain ⟨m, e⟩ := List.mem_filter.mp hp
    obtain ⟨h1, h2⟩ := G.ok p m
    exact ⟨h1, by rw [← h2]; exact of_decide_eq_true e⟩
  · rintro ⟨h1, h2⟩
    obtain ⟨p, mp, rfl⟩ := List.mem_map.mp ((G.done ht k).mpr h1)
    exact ⟨p, List.mem_filter.mpr ⟨mp, by rw [decide_eq_true_eq, (G.ok p mp).2, h2]⟩, rfl⟩
theorem fullL_nodup {w : Web} (hw : IsWeb w) : (fullL w).Nodup := by
  obtain ⟨t, G, ht⟩ := grownF_ok hw
  exact G.nd.sublist (List.Sublist.map _ List.filter_sublist)
theorem fullL_len {w : Web} (hw : IsWeb w) : (fullL w).length ≤ (knotsF w).length := nodup_sub_len _ _ (fullL_nodup hw) fun k m => (mem_knotsF hw k).mpr ((mem_fullL hw).mp m).1
theorem fullL_ne {w : Web} (hw : IsWeb w) (h2 : 2 ≤ (fullL w).length) : ∀ k ∈ fullL w, k ≠ [] := by
  rintro k mk rfl
  have h := ((mem_fullL hw).mp mk).2
  rw [common_nil] at h
  have n0 : w.1 ≤ 0 := by have := irange_length 0 w.1; rw [h] at this; simp at this; omega
  have := nodup_sub_len (fullL w) [[]] (fullL_nodup hw) fun k m => by
    have hk := ((mem_fullL hw).mp m).1
    cases k with
    | nil => simp
    | cons a r => have := hk.rng a (by simp); omega
  simp at this; omega
theorem sortK_perm_eq {l m : List (List Int)} (h : l.Perm m) : sortK l = sortK m := sortK_of ((sortK_perm l).trans h) (sortK_sorted l)
theorem pw_any {R : Int → Int → Prop} (hs : ∀ a b, R a b → R b a) {l : List Int} (h : l.Pairwise R) {a b : Int} (ha : a ∈ l) (hb : b ∈ l) (ne : a ≠ b) : R a b := by
  obtain ⟨i, hi, rfl⟩ := List.getElem_of_mem ha
  obtain ⟨j, hj, rfl⟩ := List.getElem_of_mem hb
  rcases Nat.lt_trichotomy i j with q | q | q
  · exact List.pairwise_iff_getElem.mp h i j hi hj q
  · subst q; exact absurd rfl ne
  · exact hs _ _ (List.pairwise_iff_getElem.mp h j i hj hi q)
theorem isK_sort {w : Web} {k : List Int} {v : Int} (hk : isK w w.1 k) (hv : v ∉ k) (v0 : 0 ≤ v) (v1 : v < w.1) : isK w w.1 (sortI (k ++ [v])) ↔ ∀ a ∈ k, tie w a v = true := by
  have pm := sortI_perm (k ++ [v])
  have mm : ∀ a, a ∈ sortI (k ++ [v]) ↔ a ∈ k ∨ a = v := fun a => by rw [pm.mem_iff]; simp
  have nd : (k ++ [v]).Nodup := List.nodup_append.mpr ⟨up_nodup hk.up, by simp, fun a ha b hb e => by rw [List.mem_singleton.mp hb] at e; exact hv (e ▸ ha)⟩
  constructor
  · intro h a ha
    exact pw_any (fun a b q => by rw [tie_comm]; exact q) h.tied ((mm a).mpr (.inl ha)) ((mm v).mpr (.inr rfl)) fun e => hv (e ▸ ha)
  · intro h
    have nd2 := pm.nodup_iff.mpr nd
    refine ⟨?_, fun a ha => ?_, ?_⟩
    · exact List.Pairwise.imp₂ (fun a b h1 h2 => by omega) (sortI_sorted (k ++ [v])) nd2
    · rcases (mm a).mp ha with q | rfl
      · exact hk.rng a q
      · exact ⟨v0, v1⟩
    · refine List.Pairwise.imp_of_mem (fun {a b} ma mb hne => ?_) nd2
      rcases (mm a).mp ma with qa | rfl
      · rcases (mm b).mp mb with qb | rfl
        · exact pw_any (fun a b q => by rw [tie_comm]; exact q) hk.tied qa qb hne
        · exact h a qa
      · rcases (mm b).mp mb with qb | rfl
        · rw [tie_comm]; exact h b qb
        · exact absurd rfl hne
/-- the law's own: no further place goes with it -/
theorem any_more {w : Web} (hw : IsWeb w) {k : List Int} (ik : isK w w.1 k) {known : List (List Int × Bool)} (kn : ∀ x, hk known x = true ↔ x ∈ knotsF w) :
    ((((irange 0 w.1).filter fun p => !inl p k).map fun v => hk known (sortI (k ++ [v]))).any id) = !decide (commonL w k = []) := by
  rw [Bool.eq_iff_iff, List.any_eq_true]
  simp only [Bool.not_eq_true', decide_eq_false_iff_not]
  constructor
  · rintro ⟨x, mx, hx⟩ e
    obtain ⟨v, mv, rfl⟩ := List.mem_map.mp mx
    obtain ⟨m1, m2⟩ := List.mem_filter.mp mv
    have m1 := mem_irange.mp m1
    have nv : v ∉ k := fun q => by have m3 := inl_iff.mpr q; rw [m3] at m2; cases m2
    have := (isK_sort ik nv m1.1 m1.2).mp ((mem_knotsF hw _).mp ((kn _).mp hx))
    have mc : v ∈ commonL w k := mem_common.mpr ⟨m1, this⟩
    rw [e] at mc; cases mc
  · intro ne
    obtain ⟨v, mv⟩ := List.exists_mem_of_ne_nil _ ne
    have mc := mem_common.mp mv
    have nv : v ∉ k := fun q => by have := mc.2 v q; rw [tie_self hw] at this; cases this
    refine ⟨_, List.mem_map.mpr ⟨v, List.mem_filter.mpr ⟨mem_irange.mpr mc.1, ?_⟩, rfl⟩, ?_⟩
    · rw [Bool.not_eq_true', Bool.eq_false_iff]; intro q; exact nv (inl_iff.mp q)
    · exact (kn _).mpr ((mem_knotsF hw _).mpr ((isK_sort ik nv mc.1.1 mc.1.2).mpr mc.2))
theorem full_perm {w : Web} (hw : IsWeb w) : ((knotsF w).filter fun k => decide (commonL w k = [])).Perm (fullL w) :=
  (List.perm_ext_iff_of_nodup (List.Pairwise.filter _ (show (knotsF w).Nodup from knots_nodup w _)) (fullL_nodup hw)).mpr fun k => by
    rw [List.mem_filter, mem_fullL hw, mem_knotsF hw, decide_eq_true_eq]
end TY

/-! Full knots, counted knots, the most: together. -/
namespace TY
open PySem PySem.Spec L2 DL
theorem up_ext' {l m : List Int} (hl : l.Pairwise (· < ·)) (hm : m.Pairwise (· < ·)) (h : ∀ x, x ∈ l ↔ x ∈ m) : l = m :=
  List.Perm.eq_of_pairwise (fun a b _ _ h1 h2 => by omega) hl hm ((List.perm_ext_iff_of_nodup (up_nodup hl) (up_nodup hm)).mpr h)
theorem mem_fullF {w : Web} (hw : IsWeb w) {k : List Int} : k ∈ fullF w ↔ isK w w.1 k ∧ commonL w k = [] := by
  unfold fullF; rw [(sortK_perm _).mem_iff]; exact mem_fullL hw
theorem fullF_nodup {w : Web} (hw : IsWeb w) : (fullF w).Nodup := (sortK_perm _).nodup_iff.mpr (fullL_nodup hw)
theorem fullF_len {w : Web} (h : knotsP w) : (fullF w).length ≤ 1048576 := by
  have h1 := fullL_len h.isw
  have h2 := knots_big h _ (Nat.le_refl _)
  have h3 : (fullF w).length = (fullL w).length := (sortK_perm _).length_eq
  unfold knotsF at h1; omega
/-- a rising part of a knot -/
theorem isK.part {w : Web} {k l : List Int} (h : isK w w.1 k) (up : l.Pairwise (· < ·)) (s : ∀ a ∈ l, a ∈ k) : isK w w.1 l := by
  have c := (h.cl.sub (up_nodup up) s).isK
  rwa [← sortI_of (List.Perm.refl _) (up.imp fun h => by omega)] at c
/-- each knot lies in a full one -/
theorem ext_full {w : Web} (hw : IsWeb w) : ∀ (n : Nat) (k : List Int), isK w w.1 k → w.1.toNat ≤ k.length + n → ∃ f ∈ fullF w, ∀ a ∈ k, a ∈ f
  | n, k, hk, hn => by
    cases e : commonL w k with
    | nil => exact ⟨k, (mem_fullF hw).mpr ⟨hk, e⟩, fun _ m => m⟩
    | cons v r =>
      have mv : v ∈ commonL w k := by rw [e]; simp
      obtain ⟨rv, tv⟩ := mem_common.mp mv
      have c2 : Cl w (k ++ [v]) := hk.cl.snoc hw rv fun b mb => by rw [tie_comm]; exact tv b mb
      have k2 := c2.isK
      have l2 : (sortI (k ++ [v])).length = k.length + 1 := by rw [(sortI_perm _).length_eq]; simp
      cases n with
      | zero => have := k2.len hw.n0; omega
      | succ n =>
        obtain ⟨f, mf, hf⟩ := ext_full hw n _ k2 (by omega)
        exact ⟨f, mf, fun a ma => hf a ((sortI_perm _).mem_iff.mpr (by simp [ma]))⟩
theorem knot_in_full {w : Web} (hw : IsWeb w) {k : List Int} (hk : isK w w.1 k) : ∃ f ∈ fullF w, ∀ a ∈ k, a ∈ f := ext_full hw w.1.toNat k hk (by omega)
/-- no full knot lies in another -/
theorem full_apart {w : Web} (hw : IsWeb w) {f g : List Int} (hf : f ∈ fullF w) (hg : g ∈ fullF w) (s : ∀ a ∈ f, a ∈ g) : f = g := by
  obtain ⟨kf, cf⟩ := (mem_fullF hw).mp hf
  obtain ⟨kg, _⟩ := (mem_fullF hw).mp hg
  refine up_ext' kf.up kg.up fun x => ⟨s x, fun mx => Classical.byContradiction fun nx => ?_⟩
  have : x ∈ commonL w f := mem_common.mpr ⟨kg.rng x mx, fun a ma => kg.cl.td a (s a ma) x mx fun e => nx (e ▸ ma)⟩
  rw [cf] at this; cases this
theorem full_within {w : Web} (hw : IsWeb w) {f : List Int} (hf : f ∈ fullF w) : (fullF w).filter (fun g => withinF f g) = [f] := by
  have nd := (fullF_nodup hw).filter (fun g => withinF f g)
  have : ((fullF w).filter fun g => withinF f g).Perm [f] := (List.perm_ext_iff_of_nodup nd (by simp)).mpr fun g => by
    rw [List.mem_filter, List.mem_singleton]
    constructor
    · rintro ⟨mg, h⟩
      exact (full_apart hw hf mg (within_iff.mp h)).symm
    · rintro rfl
      exact ⟨hf, within_iff.mpr fun _ m => m⟩
  exact List.perm_singleton.mp this
theorem full_some {w : Web} (hw : IsWeb w) : fullF w ≠ [] := by
  obtain ⟨f, mf, _⟩ := knot_in_full hw (isK.nil w w.1)
  intro e; rw [e] at mf; cases mf
theorem full_most {w : Web} (hw : IsWeb w) {r : Int × List Int} (O : MostO w r) : maxL ((fullF w).map fun k => (k.length : Int)) = r.1 := by
  have ne : (fullF w).map (fun k => (k.length : Int)) ≠ [] := by
    intro e; exact full_some hw (List.map_eq_nil_iff.mp e)
  obtain ⟨m, u⟩ := maxL_spec ne
  refine Int.le_antisymm ?_ ?_
  · obtain ⟨k, mk, ek⟩ := List.mem_map.mp m
    rw [← ek]
    exact O.top k ((mem_fullF hw).mp mk).1.cl
  · obtain ⟨f, mf, hf⟩ := knot_in_full hw O.k
    have h1 := u _ (List.mem_map.mpr ⟨f, mf, rfl⟩)
    have h2 := nodup_sub_len r.2 f O.k.cl.nd hf
    have := O.len
    omega
theorem isKnot_full {w : Web} (hw : IsWeb w) {k : List Int} (up : k.Pairwise (· < ·)) : isKnotD w (eU D.int k) = (fullF w).any fun f => withinF k f := by
  rw [Bool.eq_iff_iff, isKnotD_int, List.any_eq_true]
  constructor
  · intro h
    obtain ⟨f, mf, s⟩ := knot_in_full hw h
    exact ⟨f, mf, within_iff.mpr s⟩
  · rintro ⟨f, mf, h⟩
    exact ((mem_fullF hw).mp mf).1.part up (within_iff.mp h)
/-- how many knots there are -/
def sizes (w : Web) : List Nat := (knotsF w).map List.length
theorem count_sizes (w : Web) (n : Nat) : (sizes w).count n = ((knotsF w).filter fun k => decide (k.length = n)).length := by
  unfold sizes
  rw [List.count, List.countP_map, List.countP_eq_length_filter]
  congr 1
theorem count_of {w : Web} {n : Nat} {l : List (List Int)} (nd : l.Nodup) (h : ∀ k, k ∈ knotsF w ∧ k.length = n ↔ k ∈ l) : (sizes w).count n = l.length := by
  rw [count_sizes]
  refine ((List.perm_ext_iff_of_nodup ((knots_nodup w _).filter _) nd).mpr fun k => ?_).length_eq
  rw [List.mem_filter, decide_eq_true_eq]; exact h k
theorem count_0 {w : Web} (hw : IsWeb w) : (sizes w).count 0 = 1 := count_of (l := [[]]) (by simp) fun k => by
  rw [List.mem_singleton, List.length_eq_zero_iff]
  exact ⟨fun h => h.2, fun e => ⟨by rw [e]; exact (mem_knotsF hw []).mpr (isK.nil _ _), e⟩⟩
theorem count_1 {w : Web} (hw : IsWeb w) : ((sizes w).count 1 : Int) = w.1 := by
  have := count_of (w := w) (n := 1) (l := (irange 0 w.1).map fun a => [a]) (map_nodup (irange_nodup _ _) fun a _ b _ e => (List.cons.inj e).1) fun k => by
    rw [List.mem_map, mem_knotsF hw]
    constructor
    · rintro ⟨h, e⟩
      obtain ⟨a, rfl⟩ := List.length_eq_one_iff.mp e
      exact ⟨a, mem_irange.mpr (h.rng a (by simp)), rfl⟩
    · rintro ⟨a, ma, rfl⟩
      exact ⟨⟨List.pairwise_singleton _ _, fun x mx => by rw [List.mem_singleton.mp mx]; exact mem_irange.mp ma, List.pairwise_singleton _ _⟩, rfl⟩
  rw [this, List.length_map, irange_length]
  have := hw.n0; omega
theorem count_2 {w : Web} (hw : IsWeb w) : (sizes w).count 2 = w.2.length := by
  have := count_of (w := w) (n := 2) (l := w.2.map fun t => [t.1, t.2]) (map_nodup (sorted_nodup hw.srt) fun a _ b _ e => Prod.ext (List.cons.inj e).1 (List.cons.inj (List.cons.inj e).2).1) fun k => by
    rw [List.mem_map, mem_knotsF hw]
    constructor
    · rintro ⟨h, e⟩
      match k, e, h with
      | [a, b], _, h =>
        have lt : a < b := (List.pairwise_cons.mp h.up).1 b (by simp)
        have t : tie w a b = true := (List.pairwise_cons.mp h.tied).1 b (by simp)
        exact ⟨(a, b), (tie_mem lt).mp t, rfl⟩
    · rintro ⟨t, mt, rfl⟩
      have := hw.mem t mt
      refine ⟨⟨?_, ?_, ?_⟩, rfl⟩
      · exact List.pairwise_cons.mpr ⟨fun b mb => by rw [List.mem_singleton.mp mb]; exact this.2.1, List.pairwise_singleton _ _⟩
      · intro x mx
        rcases List.mem_cons.mp mx with rfl | mx
        · omega
        · rw [List.mem_singleton.mp mx]; omega
      · exact List.pairwise_cons.mpr ⟨fun b mb => by rw [List.mem_singleton.mp mb]; exact (tie_mem this.2.1).mpr mt, List.pairwise_singleton _ _⟩
  rw [this, List.length_map]
theorem cnts_at {ss : List Nat} {i m : Nat} (h : i < hiN ss + m) : gi (cnts ss ++ List.replicate m (0 : Int)) (i : Nat) = ((ss.count i : Nat) : Int) := by
  have hl := cnts_len ss
  by_cases hi : i < hiN ss
  · rw [gi_append_left (by omega) (by omega), gi_nat (by omega), cnts_get (by omega)]
  · rw [gi_append_right (by omega) (by simp; omega), List.count_eq_zero.mpr fun mm => by have := hiN_mem mm; omega]
    exact List.eq_of_mem_replicate (gi_mem (by omega) (by rw [List.length_replicate]; omega))
theorem hi_most {w : Web} (hw : IsWeb w) {r : Int × List Int} (O : MostO w r) : ((hiN (sizes w) : Nat) : Int) = r.1 + 1 := by
  have h1 : hiN (sizes w) ≤ (r.1 + 1).toNat := hiN_le.mpr fun x mx => by
    obtain ⟨k, mk, rfl⟩ := List.mem_map.mp mx
    have := O.top k ((mem_knotsF hw k).mp mk).cl
    omega
  have h2 : r.2.length < hiN (sizes w) := hiN_mem (List.mem_map.mpr ⟨r.2, (mem_knotsF hw _).mpr O.k, rfl⟩)
  have := O.len
  omega
theorem cut_13 {l : List Int} (h : 3 ≤ l.length) : cutL l (some 1) (some 3) = [gi l 1, gi l 2] := by
  match l, h with
  | a :: b :: c :: r, _ =>
    unfold cutL
    rw [show HT.sIx (a :: b :: c :: r).length 0 (some 1) = if (1 : Int) < 0 then ((1 : Int) + ((a :: b :: c :: r).length : Int)).toNat else min (1 : Int).toNat (a :: b :: c :: r).length from rfl,
      show HT.sIx (a :: b :: c :: r).length (a :: b :: c :: r).length (some 3) = if (3 : Int) < 0 then ((3 : Int) + ((a :: b :: c :: r).length : Int)).toNat else min (3 : Int).toNat (a :: b :: c :: r).length from rfl]
    have e1 : min (1 : Int).toNat (a :: b :: c :: r).length = 1 := by simp
    have e3 : min (3 : Int).toNat (a :: b :: c :: r).length = 3 := by simp
    rw [if_neg (by decide), if_neg (by decide), e1, e3]
    have g1 : gi (a :: b :: c :: r) ((1 : Nat) : Int) = b := by rw [gi_nat (by simp)]; rfl
    have g2 : gi (a :: b :: c :: r) ((2 : Nat) : Int) = c := by rw [gi_nat (by simp)]; rfl
    show [b, c] = [gi (a :: b :: c :: r) ((1 : Nat) : Int), gi (a :: b :: c :: r) ((2 : Nat) : Int)]
    rw [g1, g2]
end TY

/-! A web laid into another. -/
namespace TY
open PySem PySem.Spec L2 DL
structure Emb (u w : Web) (f : Int → Int) : Prop where
  rng : ∀ i, 0 ≤ i → i < u.1 → 0 ≤ f i ∧ f i < w.1
  inj : ∀ i j, 0 ≤ i → i < u.1 → 0 ≤ j → j < u.1 → f i = f j → i = j
  td : ∀ i j, 0 ≤ i → i < u.1 → 0 ≤ j → j < u.1 → tie w (f i) (f j) = tie u i j
theorem Emb.cl {u w : Web} {f : Int → Int} (E : Emb u w f) {K : List Int} (h : Cl u K) : Cl w (K.map f) := by
  refine ⟨map_nodup h.nd fun a ma b mb e => ?_, fun x m => ?_, fun x mx y my ne => ?_⟩
  · have ra := h.rng a ma; have rb := h.rng b mb
    exact E.inj a b (by omega) (by omega) (by omega) (by omega) e
  · obtain ⟨a, ma, rfl⟩ := List.mem_map.mp m
    have ra := h.rng a ma
    exact E.rng a (by omega) (by omega)
  · obtain ⟨a, ma, rfl⟩ := List.mem_map.mp mx
    obtain ⟨b, mb, rfl⟩ := List.mem_map.mp my
    have ra := h.rng a ma; have rb := h.rng b mb
    rw [E.td a b (by omega) (by omega) (by omega) (by omega)]
    exact h.td a ma b mb fun e => ne (by rw [e])
theorem Emb.back {u w : Web} {f : Int → Int} (E : Emb u w f) {K : List Int} (hk : ∀ a ∈ K, 0 ≤ a ∧ a < u.1) (h : Cl w (K.map f)) : Cl u K := by
  have nd : K.Nodup := (List.pairwise_map.mp h.nd).imp fun h e => h (by rw [e])
  refine ⟨nd, hk, fun a ma b mb ne => ?_⟩
  have ra := hk a ma; have rb := hk b mb
  rw [← E.td a b (by omega) (by omega) (by omega) (by omega)]
  exact h.td _ (List.mem_map.mpr ⟨a, ma, rfl⟩) _ (List.mem_map.mpr ⟨b, mb, rfl⟩) fun e => ne (E.inj a b (by omega) (by omega) (by omega) (by omega) e)
theorem Emb.knot {u w : Web} {f : Int → Int} (E : Emb u w f) {k : List Int} (h : isK u u.1 k) : isK w w.1 (sortI (k.map f)) := (E.cl h.cl).isK
theorem Emb.keep {u w : Web} {f : Int → Int} (E : Emb u w f) {k l : List Int} (hk : isK u u.1 k) (hl : isK u u.1 l) (e : sortI (k.map f) = sortI (l.map f)) : k = l := by
  refine up_ext' hk.up hl.up fun x => ⟨fun m => ?_, fun m => ?_⟩
  · have : f x ∈ sortI (l.map f) := by rw [← e]; exact (sortI_perm _).mem_iff.mpr (List.mem_map.mpr ⟨x, m, rfl⟩)
    obtain ⟨y, my, ey⟩ := List.mem_map.mp ((sortI_perm _).mem_iff.mp this)
    have rx := hk.rng x m; have ry := hl.rng y my
    rwa [← E.inj y x (by omega) (by omega) (by omega) (by omega) ey]
  · have : f x ∈ sortI (k.map f) := by rw [e]; exact (sortI_perm _).mem_iff.mpr (List.mem_map.mpr ⟨x, m, rfl⟩)
    obtain ⟨y, my, ey⟩ := List.mem_map.mp ((sortI_perm _).mem_iff.mp this)
    have rx := hl.rng x m; have ry := hk.rng y my
    rwa [← E.inj y x (by omega) (by omega) (by omega) (by omega) ey]
theorem Emb.count {u w : Web} {f : Int → Int} (hu : IsWeb u) (hw : IsWeb w) (E : Emb u w f) (n : Nat) : (sizes u).count n ≤ (sizes w).count n := by
  rw [count_sizes, count_sizes]
  have := nodup_sub_len (((knotsF u).filter fun k => decide (k.length = n)).map fun k => sortI (k.map f)) ((knotsF w).filter fun k => decide (k.length = n))
    (map_nodup ((knots_nodup u _).filter _) fun a ma b mb e => E.keep ((mem_knotsF hu a).mp (List.mem_filter.mp ma).1) ((mem_knotsF hu b).mp (List.mem_filter.mp mb).1) e)
    fun x mx => by
      obtain ⟨k, mk, rfl⟩ := List.mem_map.mp mx
      obtain ⟨mk, lk⟩ := List.mem_filter.mp mk
      rw [List.mem_filter]
      refine ⟨(mem_knotsF hw _).mpr (E.knot ((mem_knotsF hu k).mp mk)), ?_⟩
      rw [decide_eq_true_eq] at lk ⊢
      rw [(sortI_perm _).length_eq, List.length_map, lk]
  rwa [List.length_map] at this
theorem Emb.hi {u w : Web} {f : Int → Int} (hu : IsWeb u) (hw : IsWeb w) (E : Emb u w f) : hiN (sizes u) ≤ hiN (sizes w) := hiN_le.mpr fun x mx => by
  have h1 : 0 < (sizes u).count x := List.count_pos_iff.mpr mx
  have h2 := E.count hu hw x
  exact hiN_mem (List.count_pos_iff.mp (by omega))
/-- two webs that are one -/
structure Iso (u w : Web) (f g : Int → Int) : Prop where
  E : Emb u w f
  G : Emb w u g
  gf : ∀ i, 0 ≤ i → i < u.1 → g (f i) = i
  fg : ∀ j, 0 ≤ j → j < w.1 → f (g j) = j
theorem Iso.symm {u w : Web} {f g : Int → Int} (I : Iso u w f g) : Iso w u g f := ⟨I.G, I.E, I.fg, I.gf⟩
theorem Iso.sizes {u w : Web} {f g : Int → Int} (hu : IsWeb u) (hw : IsWeb w) (I : Iso u w f g) : (sizes u).Perm (sizes w) :=
  List.perm_iff_count.mpr fun n => Nat.le_antisymm (I.E.count hu hw n) (I.G.count hw hu n)
theorem Iso.of {u w : Web} {f g : Int → Int} (E : Emb u w f) (gf : ∀ i, 0 ≤ i → i < u.1 → g (f i) = i) (sur : ∀ j, 0 ≤ j → j < w.1 → ∃ i, (0 ≤ i ∧ i < u.1) ∧ f i = j) : Iso u w f g := by
  refine ⟨E, ⟨fun j j0 j1 => ?_, fun i j i0 i1 j0 j1 e => ?_, fun i j i0 i1 j0 j1 => ?_⟩, gf, fun j j0 j1 => ?_⟩
  · obtain ⟨i, hi, rfl⟩ := sur j j0 j1
    rw [gf i hi.1 hi.2]; exact hi
  · obtain ⟨a, ha, rfl⟩ := sur i i0 i1
    obtain ⟨b, hb, rfl⟩ := sur j j0 j1
    rw [gf a ha.1 ha.2, gf b hb.1 hb.2] at e; rw [e]
  · obtain ⟨a, ha, rfl⟩ := sur i i0 i1
    obtain ⟨b, hb, rfl⟩ := sur j j0 j1
    rw [gf a ha.1 ha.2, gf b hb.1 hb.2, E.td a b ha.1 ha.2 hb.1 hb.2]
  · obtain ⟨i, hi, rfl⟩ := sur j j0 j1
    rw [gf i hi.1 hi.2]
theorem Iso.back {u w : Web} {f g : Int → Int} (I : Iso u w f g) {k : List Int} (h : isK u u.1 k) : sortI ((sortI (k.map f)).map g) = k := by
  refine (sortI_of ?_ (h.up.imp fun h => by omega)).symm
  refine List.Perm.trans ?_ ((sortI_perm (k.map f)).map g).symm
  rw [List.map_map, List.map_congr_left (f := g ∘ f) (g := id) fun a ma => I.gf a (h.rng a ma).1 (h.rng a ma).2, List.map_id]
theorem Iso.full {u w : Web} {f g : Int → Int} (hu : IsWeb u) (hw : IsWeb w) (I : Iso u w f g) {k : List Int} (h : k ∈ fullF u) : sortI (k.map f) ∈ fullF w := by
  obtain ⟨hk, hc⟩ := (mem_fullF hu).mp h
  refine (mem_fullF hw).mpr ⟨I.E.knot hk, List.eq_nil_iff_forall_not_mem.mpr fun v mv => ?_⟩
  obtain ⟨rv, tv⟩ := mem_common.mp mv
  have rg := I.G.rng v rv.1 rv.2
  have : g v ∈ commonL u k := mem_common.mpr ⟨rg, fun a ma => by
    have ra := hk.rng a ma
    rw [← I.E.td a (g v) ra.1 ra.2 rg.1 rg.2, I.fg v rv.1 rv.2]
    exact tv _ ((sortI_perm _).mem_iff.mpr (List.mem_map.mpr ⟨a, ma, rfl⟩))⟩
  rw [hc] at this; cases this
theorem sort_full {u : Web} {l : List (List Int)} (h : l.Perm (fullF u)) : sortK l = fullF u := sortK_perm_eq (h.trans (sortK_perm _))
theorem Iso.due {u w : Web} {f g : Int → Int} (hu : IsWeb u) (hw : IsWeb w) (I : Iso u w f g) : sortK ((fullF w).map fun k => sortI (k.map g)) = fullF u := by
  refine sort_full ((List.perm_ext_iff_of_nodup (map_nodup (fullF_nodup hw) fun a ma b mb e => I.G.keep ((mem_fullF hw).mp ma).1 ((mem_fullF hw).mp mb).1 e) (fullF_nodup hu)).mpr fun x => ?_)
  rw [List.mem_map]
  constructor
  · rintro ⟨k, mk, rfl⟩
    exact I.symm.full hw hu mk
  · intro mx
    exact ⟨_, I.full hu hw mx, I.back ((mem_fullF hu).mp mx).1⟩
theorem full_ne {w : Web} (hw : IsWeb w) (h2 : 2 ≤ (fullF w).length) : ∀ k ∈ fullF w, k ≠ [] := fun k mk =>
  fullL_ne hw (by have : (fullF w).length = (fullL w).length := (sortK_perm _).length_eq; omega) k ((sortK_perm _).mem_iff.mp mk)
theorem map_ne {w : Web} (hw : IsWeb w) (g : Int → Int) (h2 : 2 ≤ ((fullF w).map fun k => sortI (k.map g)).length) : ∀ k ∈ (fullF w).map fun k => sortI (k.map g), k ≠ [] := fun k mk e => by
  obtain ⟨l, ml, rfl⟩ := List.mem_map.mp mk
  rw [List.length_map] at h2
  have := congrArg List.length e
  rw [(sortI_perm _).length_eq, List.length_map] at this
  exact full_ne hw h2 l ml (List.eq_nil_of_length_eq_zero this)
/-! the moved web -/
theorem moved_emb {w : Web} {o : List Int} (h : movedP w o) : Emb (movedF w o) w (gi o) := by
  have hl := h.len
  refine ⟨fun i i0 i1 => ?_, fun i j i0 i1 j0 j1 e => ?_, fun i j i0 i1 j0 j1 => ?_⟩
  · have i1 : i < w.1 := i1
    exact h.rng _ (gi_mem i0 (by omega))
  · have i1 : i < w.1 := i1
    have j1 : j < w.1 := j1
    exact gi_inj h.nd i0 (by omega) j0 (by omega) e
  · have i1 : i < w.1 := i1
    have j1 : j < w.1 := j1
    by_cases e : i = j
    · subst e; rw [tie_self h.isw, tie_self (movedF_web h.isw o)]
    · exact (tie_mk' (r := fun i j => tie w (gi o i) (gi o j)) (fun a b => tie_comm w _ _) i0 j0 i1 j1 e).symm
theorem moved_iso {w : Web} {o : List Int} (h : movedP w o) : Iso (movedF w o) w (gi o) (gk (nmF 0 o)) := by
  have hl := h.len
  refine Iso.of (moved_emb h) (fun i i0 i1 => ?_) fun j j0 j1 => ?_
  · have i1 : i < w.1 := i1
    exact nm_gi h.nd i0 (by omega)
  · obtain ⟨i, i0, i1, e⟩ := mem_gi (h.all j0 j1)
    exact ⟨i, ⟨i0, (show i < w.1 by omega)⟩, e⟩
theorem ienum_nm (l : List Int) : (ienum l).map (fun p => (p.2, p.1)) = nmF 0 l := by
  have : ∀ (l : List Int) (k : Nat), (l.zipIdx k).map (fun p => (p.1, (p.2 : Int))) = nmF k l := by
    intro l
    induction l with
    | nil => intro k; rfl
    | cons x r ih =>
      intro k
      have := ih (k + 1)
      simp only [List.zipIdx_cons, List.map_cons, nmF]
      rw [this]; norm_cast
  have := this l 0
  unfold ienum
  rw [List.map_map]
  exact this
/-! the part -/
theorem part_emb {w : Web} {ps : List Int} (h : partP w ps) : Emb (partF w ps) w (gi ps) := by
  have nd := up_nodup h.up
  refine ⟨fun i i0 i1 => ?_, fun i j i0 i1 j0 j1 e => ?_, fun i j i0 i1 j0 j1 => ?_⟩
  · have i1 : i < (ps.length : Int) := i1
    exact h.rng _ (gi_mem i0 (by omega))
  · have i1 : i < (ps.length : Int) := i1
    have j1 : j < (ps.length : Int) := j1
    exact gi_inj nd i0 (by omega) j0 (by omega) e
  · have i1 : i < (ps.length : Int) := i1
    have j1 : j < (ps.length : Int) := j1
    by_cases e : i = j
    · subst e; rw [tie_self h.isw, tie_self (partF_web w ps)]
    · exact (tie_mk' (r := fun i j => tie w (gi ps i) (gi ps j)) (fun a b => tie_comm w _ _) i0 j0 i1 j1 e).symm
theorem isK_part {w : Web} {ps : List Int} (h : partP w ps) {k : List Int} (up : k.Pairwise (· < ·)) (rk : ∀ a ∈ k, 0 ≤ a ∧ a < (ps.length : Int)) : isK (partF w ps) (partF w ps).1 k ↔ isK w w.1 (k.map (gi ps)) := by
  have E := part_emb h
  have mup : (k.map (gi ps)).Pairwise (· < ·) := by
    rw [List.pairwise_map]
    exact List.Pairwise.imp_of_mem (fun {a b} ma mb lt => gi_up h.up (rk a ma).1 lt (rk b mb).2) up
  constructor
  · intro z
    have := E.knot z
    rwa [← sortI_of (List.Perm.refl _) (mup.imp fun h => by omega)] at this
  · intro z
    have := (E.back rk z.cl).isK
    rwa [← sortI_of (List.Perm.refl _) (up.imp fun h => by omega)] at this
theorem cnts_le {ss tt : List Nat} (h : ∀ n, ss.count n ≤ tt.count n) : ((List.zip (cnts ss) (cnts tt)).map fun p => decide (p.1 ≤ p.2)).all id = true := by
  rw [List.all_map, List.all_eq_true]
  intro p mp
  obtain ⟨i, hi, e⟩ := List.mem_iff_getElem.mp mp
  rw [List.getElem_zip] at e
  rw [List.length_zip] at hi
  subst e
  simp only [Function.comp, id, decide_eq_true_eq]
  rw [cnts_get (by omega), cnts_get (by omega)]
  exact Int.ofNat_le.mpr (h i)
end TY

/-! The most of parts, of a web with one tie more, of the moved and of the turned one. -/
namespace TY
open PySem PySem.Spec L2 DL
theorem MostO.le {u w : Web} {f : Int → Int} (E : Emb u w f) {r s : Int × List Int} (hr : MostO u r) (hs : MostO w s) : r.1 ≤ s.1 := by
  have := hs.top _ (E.cl hr.k.cl)
  rw [List.length_map, hr.len] at this
  exact this
theorem part_ge {w : Web} {ps : List Int} (h : partP w ps) {r : Int × List Int} (O : MostO (partF w ps) r) {K : List Int} (cK : Cl w K) (s : ∀ a ∈ K, a ∈ ps) : (K.length : Int) ≤ r.1 := by
  have nd := up_nodup h.up
  have e : (K.map fun a => gk (nmF 0 ps) a).map (gi ps) = K := by
    rw [List.map_map]
    refine (List.map_congr_left (f := gi ps ∘ fun a => gk (nmF 0 ps) a) (g := id) fun a ma => ?_).trans (List.map_id _)
    obtain ⟨i, i0, i1, ei⟩ := mem_gi (s a ma)
    show gi ps (gk (nmF 0 ps) a) = a
    rw [← ei, nm_gi nd i0 i1]
  have hk : ∀ i ∈ K.map fun a => gk (nmF 0 ps) a, 0 ≤ i ∧ i < (partF w ps).1 := fun i mi => by
    obtain ⟨a, ma, rfl⟩ := List.mem_map.mp mi
    obtain ⟨i, i0, i1, ei⟩ := mem_gi (s a ma)
    rw [← ei, nm_gi nd i0 i1]
    exact ⟨i0, i1⟩
  have := O.top _ ((part_emb h).back hk (by rw [e]; exact cK))
  rwa [List.length_map] at this
theorem part_le {w : Web} {ps : List Int} (h : partP w ps) {r s : Int × List Int} (O : MostO (partF w ps) r) (P : MostO w s) : r.1 ≤ s.1 := O.le (part_emb h) P
/-- a knot of the part as one of the web -/
theorem part_knot {w : Web} {ps : List Int} (h : partP w ps) {r : Int × List Int} (O : MostO (partF w ps) r) : ∃ K, Cl w K ∧ (∀ a ∈ K, a ∈ ps) ∧ (K.length : Int) = r.1 := by
  refine ⟨r.2.map (gi ps), (part_emb h).cl O.k.cl, fun a ma => ?_, by rw [List.length_map, O.len]⟩
  obtain ⟨i, mi, rfl⟩ := List.mem_map.mp ma
  have ri := O.k.rng i mi
  exact gi_mem ri.1 ri.2
def restL (w : Web) (p : Int) : List Int := (irange 0 w.1).filter fun o => !decide (o = p)
theorem mem_rest {w : Web} {p a : Int} : a ∈ restL w p ↔ (0 ≤ a ∧ a < w.1) ∧ a ≠ p := by unfold restL; rw [List.mem_filter, mem_irange]; simp
theorem restP {w : Web} (hw : IsWeb w) (hn : w.1 ≤ 24) (p : Int) : partP w (restL w p) := ⟨hw, hn, (irange_sorted 0 w.1).sublist List.filter_sublist, fun a ma => (mem_rest.mp ma).1⟩
theorem nearPP {w : Web} (hw : IsWeb w) (hn : w.1 ≤ 24) (p : Int) : partP w (nearL w p) := ⟨hw, hn, nearL_up w p, fun a ma => (mem_nearL.mp ma).1⟩
theorem less_len {K : List Int} (nd : K.Nodup) (p : Int) : (K.length : Int) ≤ ((K.filter fun a => !decide (a = p)).length : Int) + 1 ∧ (p ∉ K → (K.filter fun a => !decide (a = p)) = K) := by
  constructor
  · have := nodup_sub_len K ((K.filter fun a => !decide (a = p)) ++ [p]) nd fun x mx => by
      by_cases e : x = p
      · simp [e]
      · rw [List.mem_append, List.mem_filter]; exact .inl ⟨mx, by simp [e]⟩
    rw [List.length_append] at this
    simp at this; omega
  · intro np
    exact List.filter_eq_self.mpr fun a ma => by
      have : a ≠ p := fun e => np (e ▸ ma)
      simp [this]
theorem Cl.less {w : Web} {K : List Int} (h : Cl w K) (p : Int) : Cl w (K.filter fun a => !decide (a = p)) := h.sub (h.nd.filter _) fun a ma => (List.mem_filter.mp ma).1
/-- the most by one place -/
theorem one_place {w : Web} (hw : IsWeb w) (hn : w.1 ≤ 24) {p : Int} (p0 : 0 ≤ p) (p1 : p < w.1) {r a b : Int × List Int} (O : MostO w r) (A : MostO (partF w (restL w p)) a) (B : MostO (partF w (nearL w p)) b) :
    (r.1 - a.1 = 0 ∨ r.1 - a.1 = 1) ∧ r.1 = max a.1 (1 + b.1) := by
  have PR := restP hw hn p; have PN := nearPP hw hn p
  have h1 := part_le PR A O
  have h2 : 1 + b.1 ≤ r.1 := by
    obtain ⟨K, cK, sK, lK⟩ := part_knot PN B
    have := O.top _ (cK.snoc hw ⟨p0, p1⟩ fun a ma => (mem_nearL.mp (sK a ma)).2)
    rw [List.length_append] at this
    simp at this; omega
  have h3 : r.1 ≤ a.1 + 1 := by
    have c := O.k.cl.less p
    have := part_ge PR A c fun x mx => by
      obtain ⟨m, e⟩ := List.mem_filter.mp mx
      exact mem_rest.mpr ⟨O.k.rng x m, by simpa using e⟩
    have := (less_len O.k.cl.nd p).1
    have := O.len; omega
  have h4 : r.1 ≤ max a.1 (1 + b.1) := by
    by_cases m : p ∈ r.2
    · have c := O.k.cl.less p
      have := part_ge PN B c fun x mx => by
        obtain ⟨mx, e⟩ := List.mem_filter.mp mx
        exact mem_nearL.mpr ⟨O.k.rng x mx, O.k.cl.td p m x mx fun q => by simp [q] at e⟩
      have := (less_len O.k.cl.nd p).1
      have := O.len; omega
    · have := part_ge PR A O.k.cl fun x mx => mem_rest.mpr ⟨O.k.rng x mx, fun e => m (e ▸ mx)⟩
      have := O.len; omega
  omega
/-- one tie more -/
def moreF (w : Web) (a b : Int) : Web := (w.1, sortP (w.2 ++ [(min a b, max a b)]))
theorem more_web {w : Web} (hw : IsWeb w) {a b : Int} (a0 : 0 ≤ a) (a1 : a < w.1) (b0 : 0 ≤ b) (b1 : b < w.1) (ne : a ≠ b) (no : (min a b, max a b) ∉ w.2) : IsWeb (moreF w a b) := by
  have nd : (w.2 ++ [(min a b, max a b)]).Nodup := List.nodup_append.mpr ⟨sorted_nodup hw.srt, by simp, fun x mx y my e => by
    rw [List.mem_singleton.mp my] at e; subst e; exact no mx⟩
  refine ⟨hw.n0, fun p mp => ?_, sortP_nodup nd⟩
  have mp : p ∈ w.2 ++ [(min a b, max a b)] := (sortP_perm _).mem_iff.mp mp
  rcases List.mem_append.mp mp with mp | mp
  · exact hw.mem p mp
  · rw [List.mem_singleton.mp mp]
    show 0 ≤ min a b ∧ min a b < max a b ∧ max a b < w.1
    omega
theorem more_tie {w : Web} {a b x y : Int} : tie (moreF w a b) x y = true ↔ tie w x y = true ∨ (min x y, max x y) = (min a b, max a b) := by
  unfold tie moreF
  rw [inl_iff, inl_iff]
  show (min x y, max x y) ∈ sortP (w.2 ++ [(min a b, max a b)]) ↔ _
  rw [(sortP_perm _).mem_iff, List.mem_append, List.mem_singleton]
theorem more_most {w : Web} {a b : Int} (ne : a ≠ b) {r s : Int × List Int} (O : MostO w r) (P : MostO (moreF w a b) s) : s.1 - r.1 = 0 ∨ s.1 - r.1 = 1 := by
  have h1 := P.top r.2 ⟨O.k.cl.nd, O.k.cl.rng, fun x mx y my ne => more_tie.mpr (.inl (O.k.cl.td x mx y my ne))⟩
  have c := P.k.cl.less a
  have h2 := O.top (s.2.filter fun x => !decide (x = a)) ⟨c.nd, c.rng, fun x mx y my xy => by
    rcases more_tie.mp (c.td x mx y my xy) with t | e
    · exact t
    · exfalso
      have nx : x ≠ a := by simpa using (List.mem_filter.mp mx).2
      have ny : y ≠ a := by simpa using (List.mem_filter.mp my).2
      have e1 := congrArg Prod.fst e; have e2 := congrArg Prod.snd e
      simp only at e1 e2
      omega⟩
  have := (less_len P.k.cl.nd a).1
  have := O.len; have := P.len
  omega
theorem iso_most {u w : Web} {f g : Int → Int} (I : Iso u w f g) {r s : Int × List Int} (O : MostO u r) (P : MostO w s) : r.1 = s.1 := Int.le_antisymm (O.le I.E P) (P.le I.G O)
/-- a knot and an apart set have at most one place in common -/
theorem meet_one {w : Web} (hw : IsWeb w) {K L : List Int} (cK : Cl w K) (cL : Cl (turnedF w) L) : ((L.filter fun x => inl x K).length : Int) ≤ 1 := by
  have nd : (L.filter fun x => inl x K).Nodup := cL.nd.filter _
  have all : ∀ x ∈ L.filter fun x => inl x K, ∀ y ∈ L.filter fun x => inl x K, x = y := fun x mx y my => Classical.byContradiction fun ne => by
    obtain ⟨mx, ex⟩ := List.mem_filter.mp mx
    obtain ⟨my, ey⟩ := List.mem_filter.mp my
    have kx := inl_iff.mp ex; have ky := inl_iff.mp ey
    have t1 := cK.td x kx y ky ne
    have t2 := cL.td x mx y my ne
    have rx := cK.rng x kx; have ry := cK.rng y ky
    rw [turned_tie hw rx.1 ry.1 rx.2 ry.2 ne, t1] at t2
    cases t2
  match q : L.filter fun x => inl x K with
  | [] => simp
  | [x] => simp
  | x :: y :: r =>
    exfalso
    rw [q] at nd all
    have := all x (by simp) y (by simp)
    subst this
    simp at nd
theorem drop_perm {α : Type} : ∀ {l : List α} {i : Nat} (h : i < l.length), ([l[i]] ++ l.eraseIdx i).Perm l
  | [], _, h => absurd h (by simp)
  | a :: l, 0, _ => List.Perm.refl _
  | a :: l, i + 1, h => by
    have ih := drop_perm (l := l) (i := i) (by simpa using h)
    exact (List.Perm.swap a _ _).trans (List.Perm.cons a ih)
theorem moved_of {w : Web} {o : List Int} (hw : IsWeb w) (hn : w.1 ≤ 24) (h : o.Perm (irange 0 w.1)) : movedP w o := by
  have h0 := hw.n0
  refine ⟨hw, hn, h.nodup_iff.mpr (irange_nodup _ _), ?_, fun p m => mem_irange.mp (h.mem_iff.mp m)⟩
  rw [h.length_eq, irange_length]; omega
end TY

/-! Hues along an order. -/
namespace TY
open PySem PySem.Spec L2 DL
def freeL (n : Int) (taken : List (Option Int)) : List Int := ((irange 0 n).filter fun hue => !inl (some hue) taken).map fun hue => hue
def hueStep (w : Web) (h : List (Option Int)) (p : Int) : List (Option Int) := h.set p.toNat (some (gi (freeL w.1 ((nearL w p).map fun o => gi h o)) 0))
def hueO (w : Web) (o : List Int) : List (Option Int) := o.foldl (hueStep w) (List.replicate w.1.toNat none)
def hueF (w : Web) (o : List Int) : List Int := (hueO w o).map fun x => x.getD 0
structure hueP (w : Web) (o : List Int) : Prop where
  isw : IsWeb w
  n24 : w.1 ≤ 24
  rng : ∀ p ∈ o, 0 ≤ p ∧ p < w.1
  all : ∀ p, 0 ≤ p → p < w.1 → p ∈ o
theorem mem_free {n : Int} {t : List (Option Int)} {x : Int} : x ∈ freeL n t ↔ (0 ≤ x ∧ x < n) ∧ some x ∉ t := by
  unfold freeL
  rw [List.map_id', List.mem_filter, mem_irange]
  simp only [Bool.not_eq_true', Bool.eq_false_iff, ne_eq, inl_iff]
theorem free_some {n : Int} {t : List (Option Int)} (h : (t.length : Int) < n) : InR (freeL n t) 0 := by
  have : freeL n t ≠ [] := fun e => by
    have := nodup_sub_len ((irange 0 n).map some) t (map_nodup (irange_nodup _ _) fun a _ b _ e => Option.some.inj e) fun x mx => by
      obtain ⟨a, ma, rfl⟩ := List.mem_map.mp mx
      refine Classical.byContradiction fun q => ?_
      have : a ∈ freeL n t := mem_free.mpr ⟨mem_irange.mp ma, q⟩
      rw [e] at this; cases this
    rw [List.length_map, irange_length] at this; omega
  have := List.length_pos_iff.mpr this
  constructor <;> omega
theorem near_few {w : Web} (hw : IsWeb w) {p : Int} (p0 : 0 ≤ p) (p1 : p < w.1) : ((nearL w p).length : Int) < w.1 := by
  have := nodup_sub_len (p :: nearL w p) (irange 0 w.1) (List.nodup_cons.mpr ⟨fun m => (by have := (mem_nearL.mp m).2; rw [tie_self hw] at this; cases this), up_nodup (nearL_up w p)⟩) fun x mx => by
    rcases List.mem_cons.mp mx with rfl | mx
    · exact mem_irange.mpr ⟨p0, p1⟩
    · exact mem_irange.mpr (mem_nearL.mp mx).1
  rw [irange_length, List.length_cons] at this; omega
theorem hueStep_len (w : Web) (h : List (Option Int)) (p : Int) : (hueStep w h p).length = h.length := by unfold hueStep; rw [List.length_set]
theorem fold_len (w : Web) : ∀ (o : List Int) (h : List (Option Int)), (o.foldl (hueStep w) h).length = h.length
  | [], _ => rfl
  | p :: r, h => by rw [List.foldl_cons, fold_len w r, hueStep_len]
theorem hueO_len (w : Web) (o : List Int) : (hueO w o).length = w.1.toNat := by unfold hueO; rw [fold_len, List.length_replicate]
theorem hueO_snoc (w : Web) (o : List Int) (p : Int) : hueO w (o ++ [p]) = hueStep w (hueO w o) p := by unfold hueO; rw [List.foldl_append]; rfl
/-- whose turn has come has a hue, the others none -/
theorem hueO_some {w : Web} {o : List Int} (hr : ∀ p ∈ o, 0 ≤ p ∧ p < w.1) : ∀ q, 0 ≤ q → q < w.1 → ((gi (hueO w o) q).isSome = true ↔ q ∈ o) := by
  have key : ∀ n : Nat, ∀ o : List Int, o.length = n → (∀ p ∈ o, 0 ≤ p ∧ p < w.1) → ∀ q, 0 ≤ q → q < w.1 → ((gi (hueO w o) q).isSome = true ↔ q ∈ o) := fun n => by
    induction n with
    | zero =>
      intro o e _ q q0 q1
      rw [List.length_eq_zero_iff.mp e]
      have : gi (hueO w []) q = none := List.eq_of_mem_replicate (gi_mem (l := List.replicate w.1.toNat (none : Option Int)) q0 (by rw [List.length_replicate]; omega))
      rw [this]; simp
    | succ n ih =>
      intro o e hr q q0 q1
      rcases List.eq_nil_or_concat o with rfl | ⟨l, p, rfl⟩
      · simp at e
      · rw [List.concat_eq_append] at e hr ⊢
        have hp := hr p (by simp)
        have il := ih l (by simpa using e) (fun x m => hr x (by simp [m])) q q0 q1
        rw [hueO_snoc]
        unfold hueStep
        have ln := hueO_len w l
        rw [gi_set hp.1 (by omega) q0 (by omega)]
        by_cases e2 : q = p
        · rw [if_pos e2]; simp [e2]
        · rw [if_neg e2, il]; simp [e2]
  exact key _ o rfl hr
end TY

/-! The fewest hues. -/
namespace TY
open PySem PySem.Spec L2 DL
theorem maxDef_snoc (p : List Int) {x : Int} (hx : -1 ≤ x) : maxDef (-1) (p ++ [x]) = max (maxDef (-1) p) x := by
  match p with
  | [] => show x = max (-1) x; omega
  | n :: r => show (r ++ [x]).foldl max n = max (r.foldl max n) x; rw [List.foldl_append]; rfl
theorem maxDef_ge {p : List Int} (h : ∀ x ∈ p, 0 ≤ x) : -1 ≤ maxDef (-1) p ∧ ∀ x ∈ p, x ≤ maxDef (-1) p := by
  have key : ∀ (n : Nat) (p : List Int), p.length = n → (∀ x ∈ p, 0 ≤ x) → -1 ≤ maxDef (-1) p ∧ ∀ x ∈ p, x ≤ maxDef (-1) p := fun n => by
    induction n with
    | zero =>
      intro p e _
      rw [List.eq_nil_of_length_eq_zero e]
      exact ⟨Int.le_refl _, fun _ m => nomatch m⟩
    | succ n ih =>
      intro p e h
      rcases List.eq_nil_or_concat p with rfl | ⟨l, x, rfl⟩
      · simp at e
      · rw [List.concat_eq_append] at e h ⊢
        have il := ih l (by simpa using e) fun y m => h y (by simp [m])
        have hx := h x (by simp)
        rw [maxDef_snoc l (by omega)]
        refine ⟨by omega, fun y my => ?_⟩
        rcases List.mem_append.mp my with my | my
        · have := il.2 y my; omega
        · rw [List.mem_singleton.mp my]; omega
  exact key _ p rfl h
theorem mem_irangeD {i j x : Int} : x ∈ irangeD i j ↔ j < x ∧ x ≤ i := by
  unfold irangeD
  rw [List.mem_map]
  constructor
  · rintro ⟨k, mk, rfl⟩
    have := List.mem_range.mp mk
    omega
  · rintro ⟨h1, h2⟩
    exact ⟨(i - x).toNat, List.mem_range.mpr (by omega), by omega⟩
theorem irangeD_len (i j : Int) : (irangeD i j).length = (i - j).toNat := by unfold irangeD; simp
def tiesB (w : Web) (p : Int) : List Int := ((nearL w p).filter fun o => decide (o < p)).map fun o => o
theorem mem_tiesB {w : Web} {p o : Int} : o ∈ tiesB w p ↔ ((0 ≤ o ∧ o < w.1) ∧ tie w p o = true) ∧ o < p := by
  unfold tiesB; rw [List.map_id', List.mem_filter, mem_nearL, decide_eq_true_eq]
def okH (w : Web) (p : List Int) (hue : Int) : Bool := ((tiesB w p.length).map fun o => !decide (gi p o = hue)).all id
theorem okH_iff {w : Web} {p : List Int} {x : Int} : okH w p x = true ↔ ∀ o ∈ tiesB w p.length, gi p o ≠ x := by
  unfold okH
  rw [List.all_map, List.all_eq_true]
  exact forall_congr' fun o => by simp
def freshL (p : List Int) : Int := maxDef (-1) p + 1
def huesL (w : Web) (many : Int) (p : List Int) : List Int := irangeD (min many (freshL p + 1) - 1) (-1)
def kidsH (w : Web) (many : Int) (p : List Int) : List (List Int) := ((huesL w many p).filter (okH w p)).map fun hue => p ++ [hue]
def dfsF (w : Web) (many : Int) : Nat → List (List Int) → Option (List Int)
  | 0, _ => none
  | f + 1, s => if s = [] then none else if ((s.getLastD default).length : Int) = w.1 then some (s.getLastD default) else dfsF w many f (s.dropLast ++ kidsH w many (s.getLastD default))
def wtH (n : Nat) (s : List (List Int)) : Nat := (s.map fun p => (n + 2) ^ (n + 1 - p.length)).sum
theorem wtH_append (n : Nat) (s t : List (List Int)) : wtH n (s ++ t) = wtH n s + wtH n t := by unfold wtH; rw [List.map_append, List.sum_append]
structure PartH (w : Web) (many : Int) (p : List Int) : Prop where
  len : (p.length : Int) ≤ w.1
  hue : ∀ x ∈ p, 0 ≤ x ∧ x < many
  can : maxDef (-1) p < p.length
  pr : ∀ a b, 0 ≤ a → a < b → b < (p.length : Int) → tie w a b = true → gi p a ≠ gi p b
theorem PartH.kid {w : Web} {many : Int} {p : List Int} (h : PartH w many p) (hl : (p.length : Int) ≠ w.1) {x : Int} (x0 : 0 ≤ x) (x1 : x < many) (x2 : x ≤ freshL p) (ok : okH w p x = true) : PartH w many (p ++ [x]) := by
  have hl := h.len
  have hc := h.can
  unfold freshL at x2
  refine ⟨by rw [List.length_append]; simp; omega, fun y my => ?_, ?_, fun a b a0 ab bl t => ?_⟩
  · rcases List.mem_append.mp my with my | my
    · exact h.hue y my
    · rw [List.mem_singleton.mp my]; exact ⟨x0, x1⟩
  · rw [maxDef_snoc p (by omega), List.length_append]; simp; omega
  · rw [List.length_append] at bl
    simp at bl
    by_cases e : b = (p.length : Int)
    · subst e
      rw [gi_append_left a0 ab, gi_append_right (Int.le_refl _) (by simp; omega)]
      rw [show (p.length : Int) - (p.length : Int) = ((0 : Nat) : Int) by omega, gi_nat (by simp)]
      exact okH_iff.mp ok a (mem_tiesB.mpr ⟨⟨⟨a0, by omega⟩, by rw [tie_comm]; exact t⟩, ab⟩)
    · rw [gi_append_left a0 (by omega), gi_append_left (by omega) (by omega)]
      exact h.pr a b a0 ab (by omega) t
theorem PartH.nil (w : Web) (many : Int) (h : 0 ≤ w.1) : PartH w many [] := ⟨h, fun _ m => (nomatch m), (by decide), fun a b a0 ab bl => by simp at bl; omega⟩
theorem mem_huesL {w : Web} {many : Int} {p : List Int} {x : Int} : x ∈ huesL w many p ↔ 0 ≤ x ∧ x < many ∧ x ≤ freshL p := by
  unfold huesL; rw [mem_irangeD]; omega
theorem kids_len {w : Web} {many : Int} {p : List Int} (h : PartH w many p) (hl : (p.length : Int) ≠ w.1) : (huesL w many p).length ≤ w.1.toNat := by
  have := h.len; have := h.can
  unfold huesL freshL
  rw [irangeD_len]
  omega
structure StkI (w : Web) (many : Int) (s : List (List Int)) : Prop where
  ok : ∀ p ∈ s, PartH w many p
  ix : ∀ (i : Nat) (h : i < s.length), i ≤ w.1.toNat * (s[i]).length
theorem StkI.len {w : Web} {many : Int} {s : List (List Int)} (I : StkI w many s) : s.length ≤ w.1.toNat * w.1.toNat + 1 := by
  by_cases e : s.length = 0
  · omega
  · have h1 := I.ix (s.length - 1) (by omega)
    have h2 := (I.ok _ (List.getElem_mem (by omega : s.length - 1 < s.length))).len
    have h3 : w.1.toNat * (s[s.length - 1]'(by omega)).length ≤ w.1.toNat * w.1.toNat := Nat.mul_le_mul_left _ (by omega)
    omega
/-- the kids up to some hues -/
theorem StkI.kids {w : Web} {many : Int} {t : List (List Int)} {p : List Int} (I : StkI w many (t ++ [p])) (hl : (p.length : Int) ≠ w.1) {l : List Int} (sl : l.Sublist (huesL w many p)) : StkI w many (t ++ (l.filter (okH w p)).map fun hue => p ++ [hue]) := by
  have hp := I.ok p (by simp)
  have kl := Nat.le_trans sl.length_le (kids_len hp hl)
  have it := I.ix t.length (by simp)
  simp at it
  refine ⟨fun q mq => ?_, fun i hi => ?_⟩
  · rcases List.mem_append.mp mq with mq | mq
    · exact I.ok q (by simp [mq])
    · obtain ⟨x, mx, rfl⟩ := List.mem_map.mp mq
      obtain ⟨mx, ok⟩ := List.mem_filter.mp mx
      have hx := mem_huesL.mp (sl.subset mx)
      exact hp.kid hl hx.1 hx.2.1 hx.2.2 ok
  · by_cases c : i < t.length
    · rw [List.getElem_append_left c]
      have := I.ix i (by simp; omega)
      rwa [List.getElem_append_left c] at this
    · rw [List.getElem_append_right (by omega), List.getElem_map, List.length_append]
      rw [List.length_append, List.length_map] at hi
      have := List.length_filter_le (okH w p) l
      show i ≤ w.1.toNat * (p.length + 1)
      rw [Nat.mul_add]; omega
theorem wt_kids {w : Web} {many : Int} {t : List (List Int)} {p : List Int} (I : StkI w many (t ++ [p])) (hl : (p.length : Int) ≠ w.1) : wtH w.1.toNat (t ++ kidsH w many p) < wtH w.1.toNat (t ++ [p]) := by
  have hp := I.ok p (by simp)
  have ln := hp.len
  rw [wtH_append, wtH_append]
  have h1 : wtH w.1.toNat (kidsH w many p) = (kidsH w many p).length * (w.1.toNat + 2) ^ (w.1.toNat - p.length) := by
    unfold wtH kidsH
    rw [List.map_map, List.length_map]
    have : ((fun q : List Int => (w.1.toNat + 2) ^ (w.1.toNat + 1 - q.length)) ∘ fun hue => p ++ [hue]) = fun _ => (w.1.toNat + 2) ^ (w.1.toNat - p.length) := by
      funext x
      show (w.1.toNat + 2) ^ (w.1.toNat + 1 - (p ++ [x]).length) = _
      rw [List.length_append]
      congr 1
      show w.1.toNat + 1 - (p.length + 1) = _
      omega
    rw [this]
    generalize (huesL w many p).filter (okH w p) = l
    induction l with
    | nil => simp
    | cons a r ih => rw [List.map_cons, List.sum_cons, ih, List.length_cons, Nat.add_mul]; omega
  have h2 : wtH w.1.toNat [p] = (w.1.toNat + 2) * (w.1.toNat + 2) ^ (w.1.toNat - p.length) := by
    unfold wtH
    show (w.1.toNat + 2) ^ (w.1.toNat + 1 - p.length) + 0 = _
    rw [Nat.add_zero, show w.1.toNat + 1 - p.length = (w.1.toNat - p.length) + 1 by omega, Nat.pow_succ, Nat.mul_comm]
  have h3 : (kidsH w many p).length ≤ w.1.toNat := by
    unfold kidsH
    rw [List.length_map]
    exact Nat.le_trans (List.length_filter_le _ _) (kids_len hp hl)
  rw [h1, h2]
  have h4 : 0 < (w.1.toNat + 2) ^ (w.1.toNat - p.length) := Nat.pow_pos (by omega)
  have h5 := Nat.mul_lt_mul_of_lt_of_le (show (kidsH w many p).length < w.1.toNat + 2 by omega) (Nat.le_refl ((w.1.toNat + 2) ^ (w.1.toNat - p.length))) h4
  omega
theorem wt_some {n : Nat} {s : List (List Int)} (h : s ≠ []) : 0 < wtH n s := by
  match s, h with
  | p :: r, _ =>
    unfold wtH
    rw [List.map_cons, List.sum_cons]
    have : 0 < (n + 2) ^ (n + 1 - p.length) := Nat.pow_pos (by omega)
    omega
theorem last_split {s : List (List Int)} (h : s ≠ []) : s = s.dropLast ++ [s.getLastD default] := by
  rcases List.eq_nil_or_concat s with rfl | ⟨l, x, rfl⟩
  · exact absurd rfl h
  · rw [List.concat_eq_append]; simp
/-- hueings that take each new hue in turn -/
structure CanH (w : Web) (many : Int) (H : List Int) : Prop where
  len : (H.length : Int) = w.1
  hue : ∀ x ∈ H, 0 ≤ x ∧ x < many
  can : ∀ i : Nat, i < H.length → gi H (i : Int) ≤ maxDef (-1) (H.take i) + 1
  pr : ∀ a b, 0 ≤ a → a < b → b < (H.length : Int) → tie w a b = true → gi H a ≠ gi H b
def ExtH (s : List (List Int)) (H : List Int) : Prop := ∃ p ∈ s, p = H.take p.length
theorem gi_take {H : List Int} {n : Nat} {a : Int} (a0 : 0 ≤ a) (h : a < n) (hn : n ≤ H.length) : gi (H.take n) a = gi H a := by
  rw [gi_int a0 (by rw [List.length_take]; omega), gi_int a0 (by omega), List.getElem_take]
theorem take_next {H : List Int} {n : Nat} (h : n < H.length) : H.take (n + 1) = H.take n ++ [gi H (n : Int)] := by
  rw [gi_nat h, List.take_succ_eq_append_getElem h]
theorem ext_step {w : Web} {many : Int} {t : List (List Int)} {p H : List Int} (hp : PartH w many p) (hl : (p.length : Int) ≠ w.1) (C : CanH w many H) (E : ExtH (t ++ [p]) H) : ExtH (t ++ kidsH w many p) H := by
  obtain ⟨q, mq, e⟩ := E
  have ln := hp.len
  have lh := C.len
  rcases List.mem_append.mp mq with mq | mq
  · exact ⟨q, by simp [mq], e⟩
  · rw [List.mem_singleton.mp mq] at e
    have lt : p.length < H.length := by omega
    refine ⟨p ++ [gi H (p.length : Int)], List.mem_append.mpr (.inr (List.mem_map.mpr ⟨_, List.mem_filter.mpr ⟨mem_huesL.mpr ?_, okH_iff.mpr fun o mo => ?_⟩, rfl⟩)), ?_⟩
    · have h1 := C.hue _ (gi_mem (l := H) (i := (p.length : Int)) (by omega) (by omega))
      have h2 := C.can p.length lt
      rw [← e] at h2
      unfold freshL
      exact ⟨h1.1, h1.2, h2⟩
    · obtain ⟨⟨⟨o0, o1⟩, t⟩, lo⟩ := mem_tiesB.mp mo
      have : gi p o = gi H o := by rw [e, gi_take o0 lo (by omega)]
      rw [this]
      exact C.pr o _ o0 lo (by omega) (by rw [tie_comm]; exact t)
    · rw [List.length_append]
      show _ = H.take (p.length + 1)
      rw [take_next lt, ← e]
theorem dfs_ok {w : Web} {many : Int} : ∀ (f : Nat) (s : List (List Int)), StkI w many s → wtH w.1.toNat s ≤ f → (∀ h, dfsF w many f s = some h → PartH w many h ∧ (h.length : Int) = w.1) ∧ (dfsF w many f s = none → ∀ H, CanH w many H → ¬ ExtH s H)
  | 0, s, _, hf => by
    have : s = [] := Classical.byContradiction fun ne => by have := wt_some (n := w.1.toNat) ne; omega
    subst this
    exact ⟨(fun _ e => nomatch e), fun _ H _ ⟨p, mp, _⟩ => nomatch mp⟩
  | f + 1, s, I, hf => by
    unfold dfsF
    by_cases e : s = []
    · subst e
      rw [if_pos rfl]
      exact ⟨(fun _ e => nomatch e), fun _ H _ ⟨p, mp, _⟩ => nomatch mp⟩
    · rw [if_neg e]
      have sp := last_split e
      generalize s.getLastD default = p at *
      generalize s.dropLast = t at *
      subst sp
      have hp := I.ok p (by simp)
      by_cases hl : (p.length : Int) = w.1
      · rw [if_pos hl]
        exact ⟨fun h eh => by rw [← Option.some.inj eh]; exact ⟨hp, hl⟩, (fun e => nomatch e)⟩
      · rw [if_neg hl]
        have I2 : StkI w many (t ++ kidsH w many p) := I.kids hl (List.Sublist.refl _)
        have w2 := wt_kids I hl
        obtain ⟨h1, h2⟩ := dfs_ok f _ I2 (by omega)
        exact ⟨h1, fun en H C E => h2 en H C (ext_step hp hl C E)⟩
def huedF (w : Web) (many : Int) : Option (List Int) := dfsF w many (wtH w.1.toNat [[]]) [[]]
structure huedP (w : Web) (many : Int) : Prop where
  isw : IsWeb w
  n24 : w.1 ≤ 24
  m0 : 0 ≤ many
  m1 : many ≤ 1000
theorem StkI.start {w : Web} (many : Int) (h : 0 ≤ w.1) : StkI w many [[]] := ⟨fun p mp => by rw [List.mem_singleton.mp mp]; exact PartH.nil w many h, fun i hi => by simp at hi; subst hi; simp⟩
theorem hued_some {w : Web} (hw : IsWeb w) {many : Int} {h : List Int} (e : huedF w many = some h) : PartH w many h ∧ (h.length : Int) = w.1 := (dfs_ok _ _ (StkI.start many hw.n0) (Nat.le_refl _)).1 h e
theorem hued_none {w : Web} (hw : IsWeb w) {many : Int} (e : huedF w many = none) (H : List Int) (C : CanH w many H) : False := (dfs_ok _ _ (StkI.start many hw.n0) (Nat.le_refl _)).2 e H C ⟨[], by simp, by simp⟩
/-! a hueing told anew, each new hue in turn -/
theorem ddI_len {l m : List Int} (h : ∀ x, x ∈ l ↔ x ∈ m) : (ddI l).length = (ddI m).length :=
  ((List.perm_ext_iff_of_nodup (ddI_nodup l) (ddI_nodup m)).mpr fun x => by rw [mem_ddI, mem_ddI]; exact h x).length_eq
theorem ddI_snoc (g : List Int) (x : Int) : (ddI (g ++ [x])).length = if x ∈ g then (ddI g).length else (ddI g).length + 1 := by
  by_cases m : x ∈ g
  · rw [if_pos m]
    exact ddI_len fun y => by rw [List.mem_append, List.mem_singleton]; exact ⟨fun h => h.elim id fun e => e ▸ m, .inl⟩
  · rw [if_neg m]
    have : (ddI (g ++ [x])).Perm (x :: ddI g) := (List.perm_ext_iff_of_nodup (ddI_nodup _) (List.nodup_cons.mpr ⟨fun z => m (mem_ddI.mp z), ddI_nodup g⟩)).mpr fun y => by
      rw [mem_ddI, List.mem_append, List.mem_singleton, List.mem_cons, mem_ddI]; exact Or.comm
    rw [this.length_eq, List.length_cons]
structure AnewH (g H : List Int) : Prop where
  len : H.length = g.length
  same : ∀ a b, 0 ≤ a → a < (g.length : Int) → 0 ≤ b → b < (g.length : Int) → (gi g a = gi g b ↔ gi H a = gi H b)
  nn : ∀ x ∈ H, 0 ≤ x
  can : ∀ i : Nat, i < H.length → gi H (i : Int) ≤ maxDef (-1) (H.take i) + 1
  cnt : maxDef (-1) H + 1 = ((ddI g).length : Int)
theorem AnewH.snoc {g H : List Int} (A : AnewH g H) {x y : Int} (y0 : 0 ≤ y) (y1 : y ≤ maxDef (-1) H + 1) (hs : ∀ a, 0 ≤ a → a < (g.length : Int) → (gi g a = x ↔ gi H a = y)) (hc : max (maxDef (-1) H) y + 1 = ((ddI (g ++ [x])).length : Int)) : AnewH (g ++ [x]) (H ++ [y]) := by
  have hl := A.len
  have gl : ∀ {l : List Int} {z : Int}, gi (l ++ [z]) (l.length : Int) = z := fun {l z} => by
    rw [gi_append_right (Int.le_refl _) (by simp; omega), show (l.length : Int) - (l.length : Int) = ((0 : Nat) : Int) by omega, gi_nat (by simp)]; rfl
  refine ⟨by rw [List.length_append, List.length_append, hl]; rfl, fun a b a0 a1 b0 b1 => ?_, fun z mz => ?_, fun i hi => ?_, ?_⟩
  · rw [List.length_append] at a1 b1
    simp at a1 b1
    by_cases ea : a = (g.length : Int) <;> by_cases eb : b = (g.length : Int)
    · subst ea; subst eb; simp
    · subst ea
      rw [gl, gi_append_left b0 (by omega), show (g.length : Int) = (H.length : Int) by omega, gl, gi_append_left b0 (by omega)]
      have := hs b b0 (by omega)
      exact ⟨fun e => (this.mp e.symm).symm, fun e => (this.mpr e.symm).symm⟩
    · subst eb
      rw [gl, gi_append_left a0 (by omega), show (g.length : Int) = (H.length : Int) by omega, gl, gi_append_left a0 (by omega)]
      exact hs a a0 (by omega)
    · rw [gi_append_left a0 (by omega), gi_append_left b0 (by omega), gi_append_left a0 (by omega), gi_append_left b0 (by omega)]
      exact A.same a b a0 (by omega) b0 (by omega)
  · rcases List.mem_append.mp mz with mz | mz
    · exact A.nn z mz
    · rw [List.mem_singleton.mp mz]; exact y0
  · rw [List.length_append] at hi
    simp at hi
    by_cases e : i = H.length
    · subst e
      rw [gl, List.take_left]; exact y1
    · rw [gi_append_left (by omega) (by omega), List.take_append_of_le_length (by omega)]
      exact A.can i (by omega)
  · rw [maxDef_snoc H (by omega)]; exact hc
theorem anew : ∀ (n : Nat) (g : List Int), g.length = n → ∃ H, AnewH g H
  | 0, g, e => by
    rw [List.eq_nil_of_length_eq_zero e]
    exact ⟨[], rfl, fun a b a0 a1 => by simp at a1; omega, (fun _ m => nomatch m), (fun i hi => by simp at hi), by rfl⟩
  | n + 1, g, e => by
    rcases List.eq_nil_or_concat g with rfl | ⟨l, x, rfl⟩
    · simp at e
    · rw [List.concat_eq_append] at e ⊢
      obtain ⟨H, A⟩ := anew n l (by simpa using e)
      have hl := A.len
      obtain ⟨m1, m2⟩ := maxDef_ge A.nn
      have dc := ddI_snoc l x
      have cnt := A.cnt
      by_cases m : x ∈ l
      · obtain ⟨a, a0, a1, ea⟩ := mem_gi m
        have ma : gi H a ∈ H := gi_mem a0 (by omega)
        have := m2 _ ma
        rw [if_pos m] at dc
        refine ⟨H ++ [gi H a], A.snoc (A.nn _ ma) (by omega) (fun b b0 b1 => ?_) (by omega)⟩
        rw [← ea]; exact A.same b a b0 b1 a0 a1
      · rw [if_neg m] at dc
        refine ⟨H ++ [maxDef (-1) H + 1], A.snoc (by omega) (by omega) (fun b b0 b1 => ?_) (by omega)⟩
        constructor
        · intro e; exact absurd (e ▸ gi_mem b0 b1) m
        · intro e
          have := m2 _ (gi_mem (l := H) b0 (by omega)); omega
/-- right hueings by any numbers -/
structure RightH (w : Web) (g : List Int) : Prop where
  len : (g.length : Int) = w.1
  pr : ∀ t ∈ w.2, gi g t.1 ≠ gi g t.2
theorem RightH.tied {w : Web} {g : List Int} (h : RightH w g) {a b : Int} (t : tie w a b = true) : gi g a ≠ gi g b := by
  unfold tie at t
  have := h.pr _ (inl_iff.mp t)
  rcases Int.le_total a b with q | q
  · rwa [Int.min_eq_left q, Int.max_eq_right q] at this
  · rw [Int.min_eq_right q, Int.max_eq_left q] at this
    exact this.symm
theorem hued_top {w : Web} (hw : IsWeb w) {many : Int} (e : huedF w many = none) {g : List Int} (R : RightH w g) : many < ((ddI g).length : Int) := by
  refine Classical.byContradiction fun q => ?_
  obtain ⟨H, A⟩ := anew _ g rfl
  have hl := A.len; have gl := R.len
  obtain ⟨m1, m2⟩ := maxDef_ge A.nn
  have cnt := A.cnt
  refine hued_none hw e H ⟨by omega, fun x mx => ⟨A.nn x mx, by have := m2 x mx; omega⟩, A.can, fun a b a0 ab b1 t z => ?_⟩
  exact R.tied t ((A.same a b a0 (by omega) (by omega) (by omega)).mpr z)
/-! the fewest -/
structure FewO (w : Web) (r : Int × List Int) : Prop where
  hue : isHue w r.2
  lt : ∀ x ∈ r.2, x < r.1
  cnt : ((ddI r.2).length : Int) = r.1
  top : ∀ g, RightH w g → r.1 ≤ ((ddI g).length : Int)
  le : 0 ≤ r.1 ∧ r.1 ≤ w.1
theorem isHue.right {w : Web} {g : List Int} (h : isHue w g) : RightH w g := ⟨h.len, h.pr⟩
def fewL (w : Web) : Nat → Int → Int × List Int
  | 0, many => (many, [])
  | k + 1, many => if (huedF w many).isNone then fewL w k (many + 1) else (many, (huedF w many).getD default)
def fewF (w : Web) : Int × List Int := fewL w (w.1.toNat + 1) 0
structure fewP (w : Web) : Prop where
  isw : IsWeb w
  n24 : w.1 ≤ 24
theorem dd_le {n : Int} {g : List Int} (h : ∀ x ∈ g, 0 ≤ x ∧ x < n) : ((ddI g).length : Int) ≤ max n 0 := by
  have := nodup_sub_len (ddI g) (irange 0 n) (ddI_nodup g) fun x mx => mem_irange.mpr (h x (mem_ddI.mp mx))
  rw [irange_length] at this; omega
theorem hued_all {w : Web} (hw : IsWeb w) : huedF w w.1 ≠ none := fun e => by
  have h0 := hw.n0
  have R : RightH w (irange 0 w.1) := ⟨by rw [irange_length]; omega, fun t mt => by
    have r := hw.mem t mt
    rw [gi_irange (by omega) (by omega), gi_irange (by omega) (by omega)]; omega⟩
  have h1 := hued_top hw e R
  have h2 := dd_le (g := irange 0 w.1) (n := w.1) fun x mx => mem_irange.mp mx
  omega
theorem few_step {w : Web} (hw : IsWeb w) {many : Int} (hb : ∀ g, RightH w g → many ≤ ((ddI g).length : Int)) (m0 : 0 ≤ many) (m1 : many ≤ w.1) {h : List Int} (e : huedF w many = some h) : FewO w (many, h) := by
  obtain ⟨P, hl⟩ := hued_some hw e
  have R : isHue w h := ⟨hl, fun x mx => ⟨(P.hue x mx).1, Int.lt_of_lt_of_le (P.hue x mx).2 m1⟩, fun t mt => by
    have r := hw.mem t mt
    exact P.pr _ _ r.1 r.2.1 (by omega) ((tie_mem r.2.1).mpr mt)⟩
  have h1 := hb h R.right
  have h2 := dd_le P.hue
  exact ⟨R, fun x mx => (P.hue x mx).2, (show ((ddI h).length : Int) = many by omega), hb, ⟨m0, m1⟩⟩
theorem fewL_ok {w : Web} (hw : IsWeb w) : ∀ (k : Nat) (many : Int), 0 ≤ many → many + (k : Int) = w.1 + 1 → many ≤ w.1 → (∀ g, RightH w g → many ≤ ((ddI g).length : Int)) → FewO w (fewL w k many)
  | 0, many, m0, e, m1, hb => by omega
  | k + 1, many, m0, e, m1, hb => by
    unfold fewL
    cases q : huedF w many with
    | none =>
      rw [if_pos (by rfl)]
      have : many ≠ w.1 := fun z => hued_all hw (z ▸ q)
      exact fewL_ok hw k (many + 1) (by omega) (by omega) (by omega) fun g R => by have := hued_top hw q R; omega
    | some h =>
      rw [if_neg (by simp)]
      exact few_step hw hb m0 m1 q
theorem fewF_ok {w : Web} (h : fewP w) : FewO w (fewF w) := by
  have h0 := h.isw.n0
  exact fewL_ok h.isw _ 0 (Int.le_refl 0) (by omega) h0 fun _ _ => by omega
theorem FewO.uniq {w : Web} {r s : Int × List Int} (h : FewO w r) (h' : FewO w s) : r.1 = s.1 := by
  have h1 := h.top _ h'.hue.right; have h2 := h'.top _ h.hue.right
  have := h.cnt; have := h'.cnt; omega
end TY

/-! The fewest hues of webs laid into others, of a web with one tie more; hues along, moved. -/
namespace TY
open PySem PySem.Spec L2 DL
theorem gi_ext {α : Type} [Inhabited α] {l m : List α} (e : l.length = m.length) (h : ∀ i : Int, 0 ≤ i → i < l.length → gi l i = gi m i) : l = m := by
  refine List.ext_getElem e fun i h1 h2 => ?_
  have := h (i : Nat) (by omega) (by omega)
  rwa [gi_nat h1, gi_nat h2] at this
theorem dd_sub {g h : List Int} (s : ∀ x ∈ g, x ∈ h) : (ddI g).length ≤ (ddI h).length := nodup_sub_len _ _ (ddI_nodup g) fun x mx => mem_ddI.mpr (s x (mem_ddI.mp mx))
theorem RightH.of_tie {w : Web} (hw : IsWeb w) {g : List Int} (hl : (g.length : Int) = w.1) (h : ∀ a b, 0 ≤ a → a < b → b < w.1 → tie w a b = true → gi g a ≠ gi g b) : RightH w g :=
  ⟨hl, fun t mt => by have r := hw.mem t mt; exact h _ _ r.1 r.2.1 r.2.2 ((tie_mem r.2.1).mpr mt)⟩
theorem RightH.pull {u w : Web} {f : Int → Int} (hu : IsWeb u) (E : Emb u w f) {g : List Int} (R : RightH w g) : RightH u ((irange 0 u.1).map fun i => gi g (f i)) := by
  have h0 := hu.n0
  refine RightH.of_tie hu (by rw [List.length_map, irange_length]; omega) fun a b a0 ab b1 t => ?_
  have gm : ∀ i, 0 ≤ i → i < u.1 → gi ((irange 0 u.1).map fun i => gi g (f i)) i = gi g (f i) := fun i i0 i1 => by
    rw [gi_map _ i0 (by rw [irange_length]; omega), gi_irange i0 (by omega), Int.zero_add]
  rw [gm a a0 (by omega), gm b (by omega) b1]
  exact R.tied (by rw [E.td a b a0 (by omega) (by omega) b1]; exact t)
theorem Emb.few {u w : Web} {f : Int → Int} (hu : IsWeb u) (E : Emb u w f) {r s : Int × List Int} (O : FewO u r) (P : FewO w s) : r.1 ≤ s.1 := by
  have h1 := O.top _ (P.hue.right.pull hu E)
  have h2 := dd_sub (g := (irange 0 u.1).map fun i => gi s.2 (f i)) (h := s.2) fun x mx => by
    obtain ⟨i, mi, rfl⟩ := List.mem_map.mp mx
    have mi := mem_irange.mp mi
    have rf := E.rng i mi.1 mi.2
    have := P.hue.len
    exact gi_mem rf.1 (by omega)
  have := P.cnt; omega
theorem Iso.few {u w : Web} {f g : Int → Int} (hu : IsWeb u) (hw : IsWeb w) (I : Iso u w f g) {r s : Int × List Int} (O : FewO u r) (P : FewO w s) : r.1 = s.1 := Int.le_antisymm (I.E.few hu O P) (I.G.few hw P O)
theorem hue_moved {w : Web} {o : List Int} (m : movedP w o) {h : List Int} (H : isHue w h) : isHue (movedF w o) (o.map fun p => gi h p) := by
  have ol := m.len
  have hl := H.len
  refine ⟨by rw [List.length_map]; exact ol, fun x mx => ?_, fun t mt => ?_⟩
  · obtain ⟨p, mp, rfl⟩ := List.mem_map.mp mx
    have := m.rng p mp
    exact H.rng _ (gi_mem this.1 (by omega))
  · have r := (movedF_web m.isw o).mem t mt
    have r2 : t.2 < w.1 := r.2.2
    have tt := (tie_mem r.2.1).mpr mt
    rw [gi_map _ r.1 (by omega), gi_map _ (by omega) (by omega)]
    have E := moved_emb m
    exact H.right.tied (by rw [E.td _ _ r.1 (show t.1 < w.1 by omega) (by omega) r2]; exact tt)
/-- hues along, in two webs that are one -/
theorem free_same {n : Int} {s t : List (Option Int)} (h : ∀ x : Int, some x ∈ s ↔ some x ∈ t) : freeL n s = freeL n t := by
  unfold freeL
  congr 1
  refine List.filter_congr fun x _ => ?_
  rw [Bool.eq_iff_iff, Bool.not_eq_true', Bool.not_eq_true', Bool.eq_false_iff, Bool.eq_false_iff, ne_eq, ne_eq, inl_iff, inl_iff, h x]
theorem hue_iso {u w : Web} {f g : Int → Int} (I : Iso u w f g) (en : u.1 = w.1) : ∀ (n : Nat) (o : List Int), o.length = n → (∀ p ∈ o, 0 ≤ p ∧ p < u.1) → ∀ i, 0 ≤ i → i < u.1 → gi (hueO u o) i = gi (hueO w (o.map f)) (f i)
  | 0, o, e, _ => fun i i0 i1 => by
    rw [List.eq_nil_of_length_eq_zero e]
    have rf := I.E.rng i i0 i1
    have h1 : gi (hueO u []) i = none := List.eq_of_mem_replicate (gi_mem (l := List.replicate u.1.toNat (none : Option Int)) i0 (by rw [List.length_replicate]; omega))
    have h2 : gi (hueO w []) (f i) = none := List.eq_of_mem_replicate (gi_mem (l := List.replicate w.1.toNat (none : Option Int)) rf.1 (by rw [List.length_replicate]; omega))
    rw [h1]; exact h2.symm
  | n + 1, o, e, hr => fun i i0 i1 => by
    rcases List.eq_nil_or_concat o with rfl | ⟨l, p, rfl⟩
    · simp at e
    · rw [List.concat_eq_append] at e hr ⊢
      have hp := hr p (by simp)
      have ih := hue_iso I en n l (by simpa using e) (fun x m => hr x (by simp [m]))
      rw [List.map_append, hueO_snoc]
      show _ = gi (hueO w (l.map f ++ [f p])) (f i)
      rw [hueO_snoc]
      have rf := I.E.rng i i0 i1
      have rp := I.E.rng p hp.1 hp.2
      have ln := hueO_len u l; have ln2 := hueO_len w (l.map f)
      unfold hueStep
      rw [gi_set hp.1 (by omega) i0 (by omega), gi_set rp.1 (by omega) rf.1 (by omega)]
      by_cases e2 : i = p
      · subst e2
        rw [if_pos rfl, if_pos rfl, en]
        congr 2
        refine free_same fun x => ?_
        rw [List.mem_map, List.mem_map]
        constructor
        · rintro ⟨b, mb, eb⟩
          obtain ⟨rb, tb⟩ := mem_nearL.mp mb
          exact ⟨f b, mem_nearL.mpr ⟨I.E.rng b rb.1 rb.2, by rw [I.E.td i b i0 i1 rb.1 rb.2]; exact tb⟩, by rw [← ih b rb.1 rb.2]; exact eb⟩
        · rintro ⟨b, mb, eb⟩
          obtain ⟨rb, tb⟩ := mem_nearL.mp mb
          have rg := I.G.rng b rb.1 rb.2
          refine ⟨g b, mem_nearL.mpr ⟨rg, ?_⟩, ?_⟩
          · rw [← I.E.td i (g b) i0 i1 rg.1 rg.2, I.fg b rb.1 rb.2]; exact tb
          · rw [ih (g b) rg.1 rg.2, I.fg b rb.1 rb.2]; exact eb
      · rw [if_neg e2, if_neg fun q => e2 (I.E.inj i p i0 i1 hp.1 hp.2 q)]
        exact ih i i0 i1
theorem hue_len (w : Web) (o : List Int) : (hueF w o).length = w.1.toNat := by unfold hueF; rw [List.length_map, hueO_len]
theorem along_moved {w : Web} {o : List Int} (m : movedP w o) {a : List Int} (ha : ∀ p ∈ a, 0 ≤ p ∧ p < w.1) : hueF (movedF w o) a = o.map fun p => gi (hueF w (a.map fun k => gi o k)) p := by
  have ol := m.len
  have h0 := m.isw.n0
  have l1 := hue_len (movedF w o) a
  have l1 : (hueF (movedF w o) a).length = w.1.toNat := l1
  refine gi_ext (by rw [l1, List.length_map]; omega) fun i i0 i1 => ?_
  rw [gi_map _ i0 (by omega)]
  have k := hue_iso (moved_iso m) rfl a.length a rfl ha i i0 (show i < w.1 by omega)
  have ri := m.rng _ (gi_mem (l := o) i0 (by omega))
  unfold hueF
  rw [gi_map _ i0 (by rw [hueO_len]; show i < ((w.1.toNat : Nat) : Int); omega), gi_map _ ri.1 (by rw [hueO_len]; omega)]
  exact congrArg (fun x => x.getD 0) k
/-- one tie more -/
theorem more_right {w : Web} {a b : Int} {g : List Int} (R : RightH (moreF w a b) g) : RightH w g := ⟨R.len, fun t mt => R.pr t ((sortP_perm _).mem_iff.mpr (by simp [mt]))⟩
theorem more_few {w : Web} (hw : IsWeb w) {a b : Int} (a0 : 0 ≤ a) (ab : a < b) (b1 : b < w.1) {r s : Int × List Int} (O : FewO w r) (P : FewO (moreF w a b) s) : r.1 ≤ s.1 ∧ s.1 ≤ r.1 + 1 := by
  constructor
  · have := O.top _ (more_right P.hue.right); have := P.cnt; omega
  · have hl := O.hue.len
    have ne : ∀ x ∈ r.2, x ≠ r.1 := fun x mx e => by have := O.lt x mx; omega
    have gs : ∀ j, 0 ≤ j → j < w.1 → gi (r.2.set b.toNat r.1) j = if j = b then r.1 else gi r.2 j := fun j j0 j1 => gi_set (by omega) (by omega) j0 (by omega)
    have R : RightH (moreF w a b) (r.2.set b.toNat r.1) := by
      refine ⟨by rw [List.length_set]; exact hl, fun t mt => ?_⟩
      have mt : t ∈ w.2 ++ [(min a b, max a b)] := (sortP_perm _).mem_iff.mp mt
      rcases List.mem_append.mp mt with mt | mt
      · have rt := hw.mem t mt
        rw [gs _ rt.1 (by omega), gs _ (by omega) rt.2.2]
        have n1 := ne _ (gi_mem (l := r.2) rt.1 (by omega))
        have n2 := ne _ (gi_mem (l := r.2) (i := t.2) (by omega) (by omega))
        by_cases e1 : t.1 = b <;> by_cases e2 : t.2 = b
        · omega
        · rw [if_pos e1, if_neg e2]; exact Ne.symm n2
        · rw [if_neg e1, if_pos e2]; exact n1
        · rw [if_neg e1, if_neg e2]; exact O.hue.pr t mt
      · rw [List.mem_singleton.mp mt]
        show gi (r.2.set b.toNat r.1) (min a b) ≠ gi (r.2.set b.toNat r.1) (max a b)
        rw [Int.min_eq_left (Int.le_of_lt ab), Int.max_eq_right (Int.le_of_lt ab), gs a a0 (by omega), gs b (by omega) b1, if_neg (by omega), if_pos rfl]
        exact ne _ (gi_mem (l := r.2) a0 (by omega))
    have h1 := P.top _ R
    have h2 : (ddI (r.2.set b.toNat r.1)).length ≤ (ddI r.2).length + 1 := by
      have := nodup_sub_len (ddI (r.2.set b.toNat r.1)) (r.1 :: ddI r.2) (ddI_nodup _) fun x mx => by
        rcases List.mem_or_eq_of_mem_set (mem_ddI.mp mx) with m | m
        · exact List.mem_cons_of_mem _ (mem_ddI.mpr m)
        · rw [m]; simp
      rwa [List.length_cons] at this
    have := O.cnt; omega
end TY

namespace TY
open PySem PySem.Spec L2 DL

def topS (i : Nat) : Stmt := PySem.Challenge.pw_tiefold_k20_fewest_hues.main.body.getD i (.Pass ⟨0, 0, 0, 0⟩)

section
variable {P : Program} {w : World} {K : PySem.W.Frag} {mg : Str → Option Value} {base : Heap}
def F_law : FS := F_true 63

abbrev s_all_near : Stmt := topS 1
theorem sc_all_near : FnScope ["web", "found", "a", "b", "place"] ["web"] (C8.fnScope s_all_near) := C8.fnScope_by (by decide +kernel)

def w_all_near (web : Int × (List (Int × Int))) (Q : (List (List (Int × Bool))) → Prop) : Prop :=
  (-(2 ^ 62) ≤ web.1 ∧ web.1 ≤ 1000) ∧ bnd ((List.replicate (web.1).toNat ([] : List (Int × Bool)))) fun found =>
  wFor1 (web.2) found (fun found1 (p : Int × Int) nx =>
  (0 ≤ p.1 ∧ p.1 < found1.length) ∧ (((gi found1 p.1).map (·.1)).Nodup ∧ (gi found1 p.1).length < 10000000) ∧ bnd (found1.set (p.1).toNat (putM (gi found1 p.1) p.2 true)) fun found2 =>
  (0 ≤ p.2 ∧ p.2 < found2.length) ∧ (((gi found2 p.2).map (·.1)).Nodup ∧ (gi found2 p.2).length < 10000000) ∧ bnd (found2.set (p.2).toNat (putM (gi found2 p.2) p.1 true)) fun found3 =>
  nx found3)
  (fun (found1 : List (List (Int × Bool))) => Q found1)

theorem spec_all_near {w : Web} {Q : List (List (Int × Bool)) → Prop} (h : IsWeb w) (hn : w.1 ≤ 24) (q : ∀ r, (r.length : Int) = w.1 → (∀ a b, 0 ≤ a → a < w.1 → hk (gi r a) b = tie w a b) → (∀ a, 0 ≤ a → a < w.1 → ((gi r a).map (·.1)).Nodup) → Q r) : w_all_near w Q := by
  unfold w_all_near
  have h0 := h.n0
  have hl := web_len24 h hn
  refine ⟨by omega, ?_⟩
  rintro _ rfl
  refine wFor1_inv (fun pre r => NearI w.1 (fun a b => (a, b) ∈ pre ∨ (b, a) ∈ pre) (2 * pre.length) r) ?_ ?_ ?_
  · have := NearI.nil h0
    exact ⟨this.len, this.nd, this.ln, fun a a0 a1 b => by rw [this.mem a a0 a1 b]; simp⟩
  · intro r hr
    exact q r hr.len (fun a b a0 a1 => hr.tie h (fun _ _ => Iff.rfl) b a0 a1) hr.nd
  · rintro pre p post r C e hr c
    have hp := h.mem p (by rw [e]; simp)
    have hpl : pre.length ≤ 576 := by have := congrArg List.length e; simp at this; omega
    have l1 := hr.len
    have g1 := hr.ln p.1 (by omega) (by omega)
    refine ⟨by omega, ⟨hr.nd _ (by omega) (by omega), by omega⟩, ?_⟩
    rintro _ rfl
    have hr2 := hr.put p.2 (i := p.1) (by omega) (by omega)
    have l2 := hr2.len
    have g2 := hr2.ln p.2 (by omega) (by omega)
    refine ⟨by omega, ⟨hr2.nd _ (by omega) (by omega), by omega⟩, ?_⟩
    rintro _ rfl
    have hr3 := hr2.put p.1 (i := p.2) (by omega) (by omega)
    refine c _ ⟨hr3.len, hr3.nd, fun a a0 a1 => by have := hr3.ln a a0 a1; rw [List.length_append]; simp; omega, fun a a0 a1 b => ?_⟩
    rw [hr3.mem a a0 a1]
    simp only [List.mem_append, List.mem_singleton, Prod.ext_iff]
    constructor
    · rintro (((h | h) | h) | h)
      · exact .inl (.inl h)
      · exact .inr (.inl h)
      · exact .inl (.inr h)
      · exact .inr (.inr ⟨h.2, h.1⟩)
    · rintro ((h | h) | (h | h))
      · exact .inl (.inl (.inl h))
      · exact .inl (.inr h)
      · exact .inl (.inl (.inr h))
      · exact .inr ⟨h.2, h.1⟩

def F_all_near : FS := fun ts R => ∃ (web : Int × (List (Int × Int))) (P : (List (List (Int × Bool))) → Prop), ts = [(.fz ((eP D.int (eU (eP D.int D.int))) web))] ∧ w_all_near web P ∧ ∀ (r : List (List (Int × Bool))), P  r → R [] ((.ll (r.map (tK D.bl))))

def b_all_near : DTS := (dSeq (dSet 1 (dNews (.dk []) (dAConsP (dBin ixD true (dVar 0) (dConst (.fz (.int 0)))) dNil)))
    (dSeq (dFor (iSeqD (dBin ixD true (dVar 0) (dConst (.fz (.int 1))))) (gT 2 (gsCons (gN 2) (gsCons (gN 3) gsNil))) (dSeq (dStore true (dConst (.fz (.bl true))) (dKid (dVar 1) (dVar 2)) (dVar 3))
    (dSeq (dStore true (dConst (.fz (.bl true))) (dKid (dVar 1) (dVar 3)) (dVar 2))
    (dSeq (dKill [2, 3]) dNext))))
    (dRet (dVar 1))))

set_option maxHeartbeats 4000000 in
theorem law_all_near : ∀ ts R, ts.length = 1 → F_all_near ts R → b_all_near ⟨fun G => R (G.take 0) (.fz .non), retW 0 R⟩ (ts.map some ++ List.replicate ((["web", "found", "a", "b", "place"] : List Str).length - 1) none) := by
  rintro ts R - ⟨web, P, rfl, h, hR⟩
  unfold w_all_near at h
  unfold b_all_near
  refine q_env (G2 := [some (.fz ((eP D.int (eU (eP D.int D.int))) web)), none, none, none, none]) rfl ?_
  obtain ⟨q1, h⟩ := h
  refine p_setB (fun x => (.ll (x.map (tK D.bl)))) (G' := fun found => [some (.fz ((eP D.int (eU (eP D.int D.int))) web)), some (.ll (found.map (tK D.bl))), none, none, none]) h (sp_newsK D.bl (sa_consP (sp_bin (sp_var_fz (i := 0) rfl) rd_fz sp_con rd_fz k_ix0) fz_fz sa_nil) q1) (lt_l rfl) (fun _ => rfl) fun found h => ?_
  refine q_for1 (eP D.int D.int) (fun (found1 : List (List (Int × Bool))) => [some (.fz ((eP D.int (eU (eP D.int D.int))) web)), some (.ll (found1.map (tK D.bl))), none, none, none]) (si_seqU (sp_bin (sp_var_fz (i := 0) rfl) rd_fz sp_con rd_fz k_ix1) fz_fz) rfl h (fun found1 p P C h hC => ?_) (fun found1 h => ?_)
  · refine (sg_pair (G' := [some (.fz ((eP D.int (eU (eP D.int D.int))) web)), some (.ll (found1.map (tK D.bl))), some (.fz (D.int p.1)), some (.fz (D.int p.2)), none]) (lt_l rfl) (lt_l rfl) rfl) _ ?_
    obtain ⟨q2, q3, h⟩ := h
    obtain ⟨found2, e_found2, h⟩ := h.get
    refine p_stoLK (eb := D.bl) (x := true) rfl sp_con fz_fz (sp_var_fz (i := 2) rfl) rd_fz (sp_var_fz (i := 3) rfl) rd_fz q2 q3 (G' := [some (.fz ((eP D.int (eU (eP D.int D.int))) web)), some (.ll (found2.map (tK D.bl))), some (.fz (D.int p.1)), some (.fz (D.int p.2)), none]) (by subst e_found2; rfl) ?_
    obtain ⟨q4, q5, h⟩ := h
    obtain ⟨found3, e_found3, h⟩ := h.get
    refine p_stoLK (eb := D.bl) (x := true) rfl sp_con fz_fz (sp_var_fz (i := 3) rfl) rd_fz (sp_var_fz (i := 2) rfl) rd_fz q4 q5 (G' := [some (.fz ((eP D.int (eU (eP D.int D.int))) web)), some (.ll (found3.map (tK D.bl))), some (.fz (D.int p.1)), some (.fz (D.int p.2)), none]) (by subst e_found3; rfl) ?_
    refine p_kill (G' := [some (.fz ((eP D.int (eU (eP D.int D.int))) web)), some (.ll (found3.map (tK D.bl))), none, none, none]) rfl ?_
    exact hC _ h
  exact p_ret (sp_var (i := 1) rfl trivial) ⟨Nat.le_of_ble_eq_true rfl, .inl (hR _ h)⟩

theorem ok_all_near {f : Addr} {fd : FuncData} (Fd : C8.Def K mg "all_near" s_all_near f fd) (bd : Binds K fd ["web"] []) (T_range : mg "range" = none) : Fn P w K mg base 1 "all_near" 1 0 F_all_near := by
  refine fn_mk (body := b_all_near) Fd bd sc_all_near rfl (by decide) (fun cdv A outer s H E hgd hr => ?_) law_all_near
  have nd := sc_all_near.nd
  have hu64 := hr.units
  have hu65 := hu65 hr
  have hu1 := hu1 hr
  have hu2 := hu2 hr
  have hu0 := hr.units0
  exact (dss_cons (ds_setDicts (j := 1) rfl nd rfl rfl (sw_true rfl rfl rfl (by decide +kernel)) (by decide) (by rfl) T_range (da_consP (de_ix hu1 (de_var (pv 0)) de_int (fun _ _ => rfl)) da_nil) (blkOk_by (N := ["web", "found", "a", "b", "place"]) (sc := C8.fnScope s_all_near) (by decide +kernel)) (fun _ _ _ _ _ => pg_name (i := 4) nd rfl (by first | exact .inl rfl | exact .inr rfl)))
    (dss_cons (ds_for PassesOwn.never rfl (di_seq (de_ix hu1 (de_var (pv 0)) de_int (fun _ _ => rfl))) (dg_tup rfl (dgs_cons (dg_name (i := 2) (pg_name (i := 2) nd rfl (.inl rfl)) (fun _ _ => take_set (by decide))) (dgs_cons (dg_name (i := 3) (pg_name (i := 3) nd rfl (.inl rfl)) (fun _ _ => take_set (by decide))) dgs_nil))) (dss_cons (ds_store hu1 de_bl (de_kid (de_var (pv 1)) (de_var (pv 2)) (fun _ _ => rfl)) (de_var (pv 3)))
    (dss_cons (ds_store hu1 de_bl (de_kid (de_var (pv 1)) (de_var (pv 3)) (fun _ _ => rfl)) (de_var (pv 2)))
    (dss_kill [2, 3] dss_nil))))
    (dss_one (ds_ret (de_var (pv 1))))))

abbrev s_near : Stmt := topS 2
theorem sc_near : FnScope ["web", "place"] ["web", "place"] (C8.fnScope s_near) := C8.fnScope_by (by decide +kernel)

def w_near (web : Int × (List (Int × Int))) (place : Int) (Q : (List Int) → Prop) : Prop :=
  w_all_near web fun r_all_near =>
  (InR r_all_near place) ∧ ((gi r_all_near place).length < 64) ∧ Q (sortI ((gi r_all_near place).map (·.1)))

theorem spec_near {w : Web} {p : Int} {Q : List Int → Prop} (h : nearLP w p) (q : Q (nearL w p)) : w_near w p Q := by
  unfold w_near
  refine spec_all_near h.isw h.n24 fun r hr ht hd => ?_
  have nd := hd p h.p0 h.p1
  have m : ∀ b, b ∈ (gi r p).map (·.1) ↔ b ∈ nearL w p := fun b => by
    rw [← hk_keys, ht p b h.p0 h.p1, mem_nearL]
    exact ⟨fun t => ⟨by have := tie_rng h.isw t; omega, t⟩, fun t => t.2⟩
  have l := nodup_sub_len _ (irange 0 w.1) nd fun x mx => mem_irange.mpr (mem_nearL.mp ((m x).mp mx)).1
  rw [irange_length, List.length_map] at l
  have n24 := h.n24
  refine ⟨inR h.p0 (by have := h.p1; omega), by omega, ?_⟩
  rw [sortI_eq nd (nearL_up w p) m]; exact q

def Fw_near : FS := fun ts R => ∃ (web : Int × (List (Int × Int))) (place : Int) (P : (List Int) → Prop), ts = [(.fz ((eP D.int (eU (eP D.int D.int))) web)), (.fz (D.int place))] ∧ w_near web place P ∧ ∀ (r : List Int), P  r → R [] ((tLs D.int r))
def F_near : FS := fun ts R => ∃ (web : Int × (List (Int × Int))) (place : Int), ts = [(.fz ((eP D.int (eU (eP D.int D.int))) web)), (.fz (D.int place))] ∧ nearLP web place ∧ R [] ((tLs D.int (nearL web place)))

def b_near : DTS := (dRet (dCB1 (fun y R => sortedD [y] R) (dBin ixD true (dCall 1 F_all_near (dACons (dVar 0) dNil)) (dVar 1))))

set_option maxHeartbeats 4000000 in
theorem sim_near : ∀ ts R, ts.length = 2 → Fw_near ts R → b_near ⟨fun G => R (G.take 0) (.fz .non), retW 0 R⟩ (ts.map some ++ List.replicate ((["web", "place"] : List Str).length - 2) none) := by
  rintro ts R - ⟨web, place, P, rfl, h, hR⟩
  unfold w_near at h
  unfold b_near
  refine q_env (G2 := [some (.fz ((eP D.int (eU (eP D.int D.int))) web)), some (.fz (D.int place))]) rfl ?_
  refine q_ret ?_
  refine q_cb1 ?_
  refine q_bin ?_
  refine q_call ?_
  refine a_cons (sp_var_fz (i := 0) rfl) fz_fz ?_
  refine a_nil ?_
  refine c_fin0 (fun (x : List (List (Int × Bool))) => (.ll (x.map (tK D.bl)))) rfl rfl (fun R hR => ⟨web, _, rfl, h, hR⟩) (fun r_all_near h => ?_)
  refine w_bin1 fz_llK ?_
  refine (sp_var_fz (i := 1) rfl) _ ?_
  obtain ⟨q1, h⟩ := h
  refine w_bin2 rd_fz (k_ixL (e := (eMI D.bl)) q1) ?_
  obtain ⟨q2, h⟩ := h
  refine w_cb1 rd_fz (k_sortK (eb := D.bl) q2) ?_
  exact hR _ h
theorem law_near : ∀ ts R, ts.length = 2 → F_near ts R → b_near ⟨fun G => R (G.take 0) (.fz .non), retW 0 R⟩ (ts.map some ++ List.replicate ((["web", "place"] : List Str).length - 2) none) := by
  rintro ts R hl ⟨web, place, rfl, hp, q⟩
  exact sim_near _ R hl ⟨web, place, fun r => r = nearL web place, rfl, spec_near hp rfl, fun r e => by subst e; exact q⟩

theorem ok_near {f : Addr} {fd : FuncData} (Fd : C8.Def K mg "near" s_near f fd) (bd : Binds K fd ["web", "place"] []) (h_all_near : Fn P w K mg base 1 "all_near" 1 0 F_all_near) (T_sorted : mg "sorted" = none) : Fn P w K mg base 2 "near" 2 0 F_near := by
  refine fn_mk (body := b_near) Fd bd sc_near rfl (by decide) (fun cdv A outer s H E hgd hr => ?_) law_near
  have nd := sc_near.nd
  have hu64 := hr.units
  have hu65 := hu65 hr
  have hu1 := hu1 hr
  have hu2 := hu2 hr
  have hu0 := hr.units0
  exact (dss_one (ds_ret (de_cb1 (sorted_ok rfl) (by rfl) T_sorted (by decide +kernel) (de_ix hu1 (de_call h_all_near hgd hr (by decide) (by rfl) (da_cons (de_var (pv 0)) da_nil)) (de_var (pv 1)) (fun _ _ => rfl)))))

abbrev s_hued_by : Stmt := topS 4
theorem sc_hued_by : FnScope ["web", "many", "ties", "waiting", "hues", "place", "fresh", "hue", "other"] ["web", "many"] (C8.fnScope s_hued_by) := C8.fnScope_by (by decide +kernel)

def w_hued_by (web : Int × (List (Int × Int))) (many : Int) (Q : (Option (List Int)) → Prop) : Prop :=
  (-(2 ^ 62) ≤ web.1 ∧ web.1 < 2 ^ 62) ∧ ((irange 0 web.1).length ≤ 10000000) ∧ (∀ place ∈ irange 0 web.1, (nearLP web place) ∧ ((nearL web place).length ≤ 10000000)) ∧ bnd ((irange 0 web.1).map (fun place => ((nearL web place).filter (fun other => decide (other < place))).map (fun other => other))) fun ties =>
  bnd ([([] : List Int)]) fun waiting =>
  wWhile1 waiting (fun waiting1 nx ex =>
  wIf (!decide (waiting1 = ([] : List (List Int))))
  ((waiting1 ≠ []) ∧ bnd (waiting1.getLastD default) fun popped =>
  bnd waiting1.dropLast fun waiting2 =>
  bnd ((popped.length : Int)) fun place1 =>
  wIf (decide (place1 = web.1))
  (Q (some popped))
  (bnd ((maxDef (-1) popped) + (1 : Int)) fun fresh =>
  (-(2 ^ 62) ≤ (min many (fresh + (1 : Int))) - (1 : Int) ∧ (min many (fresh + (1 : Int))) - (1 : Int) < 2 ^ 62 ∧ -(2 ^ 62) ≤ -(1 : Int) ∧ -(1 : Int) < 2 ^ 62) ∧ wFor1 (irangeD ((min many (fresh + (1 : Int))) - (1 : Int)) (-(1 : Int))) waiting2 (fun waiting3 (hue : Int) nx =>
  wJ1 (fun j1 =>
  (InR ties place1) ∧ ((gi ties place1).length ≤ 10000000) ∧ (∀ other1 ∈ gi ties place1, (InR popped other1)) ∧ wIf (((gi ties place1).map (fun other1 => !decide (gi popped other1 = hue))).all id)
  ((popped.length + ([hue] : List Int).length ≤ 10000000) ∧ (waiting3.length < 10000000) ∧ bnd (waiting3 ++ [popped ++ ([hue] : List Int)]) fun waiting5 =>
  j1 waiting5)
  (j1 waiting3))
  (fun (waiting4 : List (List Int)) => nx waiting4))
  (fun (waiting3 : List (List Int)) => nx waiting3)))
  (ex waiting1))
  (fun (waiting1 : List (List Int)) => Q (none : Option (List Int)))

theorem spec_hued_by {w : Web} {many : Int} {Q : Option (List Int) → Prop} (h : huedP w many) (q : Q (huedF w many)) : w_hued_by w many Q := by
  unfold w_hued_by
  have h0 := h.isw.n0
  have hn := h.n24
  have m0 := h.m0
  have m1 := h.m1
  refine ⟨by omega, by rw [irange_length]; omega, fun p mp => ?_, ?_⟩
  · have := mem_irange.mp mp
    refine ⟨⟨h.isw, hn, this.1, this.2⟩, ?_⟩
    have := near_few h.isw this.1 this.2; omega
  rintro _ rfl _ rfl
  refine ⟨fun m s => StkI w many s ∧ wtH w.1.toNat s = m ∧ ∃ f, m ≤ f ∧ dfsF w many f s = huedF w many, ⟨wtH w.1.toNat [[]], StkI.start many h0, rfl, _, Nat.le_refl _, rfl⟩, ?_⟩
  rintro m s ⟨I, rfl, f, hf, ef⟩
  refine ⟨fun hb => ?_, fun hb => ?_⟩
  · have ne : s ≠ [] := by simpa using hb
    have sp := last_split ne
    have hpos := wt_some (n := w.1.toNat) ne
    obtain ⟨f', rfl⟩ : ∃ f', f = f' + 1 := ⟨f - 1, by omega⟩
    unfold dfsF at ef
    rw [if_neg ne] at ef
    refine ⟨ne, ?_⟩
    rintro p ep s2 es
    rw [← ep, ← es] at sp ef
    clear ep es ne hb
    subst sp
    rintro _ rfl
    have hp := I.ok p (by simp)
    refine ⟨fun hb => ?_, fun hb => ?_⟩
    · have hl : (p.length : Int) = w.1 := by simpa using hb
      rw [if_pos hl] at ef
      rw [ef]; exact q
    · have hl : ¬ (p.length : Int) = w.1 := by simpa using hb
      rw [if_neg hl] at ef
      have pl := hp.len
      have pc := hp.can
      have pm := (maxDef_ge fun x mx => (hp.hue x mx).1).1
      rintro _ rfl
      refine ⟨by omega, ?_⟩
      rw [show irangeD (min many (maxDef (-1) p + (1 : Int) + (1 : Int)) - (1 : Int)) (-(1 : Int)) = huesL w many p from rfl]
      refine wFor1_inv (fun pre s' => s' = s2 ++ (pre.filter (okH w p)).map fun hue => p ++ [hue]) (by simp) ?_ ?_
      · rintro _ rfl
        have wk := wt_kids I hl
        exact ⟨wtH w.1.toNat (s2 ++ kidsH w many p), wk, I.kids hl (List.Sublist.refl _), rfl, f', by unfold kidsH at wk ⊢; omega, ef⟩
      · rintro pre x post _ C e rfl c
        have I3 := I.kids hl (l := pre) (by rw [e]; simp)
        have sl := I3.len
        have n2 : w.1.toNat * w.1.toNat ≤ 24 * 24 := Nat.mul_le_mul (by omega) (by omega)
        have gt : gi ((irange 0 w.1).map fun place => ((nearL w place).filter fun other => decide (other < place)).map fun other => other) (p.length : Int) = tiesB w p.length := by
          rw [gi_map _ (by omega) (by rw [irange_length]; omega), gi_irange (by omega) (by omega), Int.zero_add]; rfl
        refine ⟨fun s' => s' = s2 ++ ((pre ++ [x]).filter (okH w p)).map fun hue => p ++ [hue], ⟨inR (by omega) (by rw [List.length_map, irange_length]; omega), ?_, fun o mo => ?_, fun hb => ?_, fun hb => ?_⟩, ?_⟩
        · rw [gt]; unfold tiesB
          rw [List.length_map]
          have := List.length_filter_le (fun o => decide (o < (p.length : Int))) (nearL w p.length)
          have := near_few h.isw (p := (p.length : Int)) (by omega) (by omega); omega
        · rw [gt] at mo
          have := mem_tiesB.mp mo
          exact inR this.1.1.1 this.2
        · rw [gt] at hb
          refine ⟨by simp; omega, by omega, ?_⟩
          rintro _ rfl
          have hb : okH w p x = true := hb
          rw [List.filter_append, List.filter_cons, if_pos hb, List.map_append, List.append_assoc]; rfl
        · rw [gt] at hb
          have hb : okH w p x = false := hb
          rw [List.filter_append, List.filter_cons, hb]; simp
        · rintro _ rfl
          exact c _ rfl
  · have : s = [] := by simpa using hb
    subst this
    have : dfsF w many f [] = none := by cases f <;> rfl
    rw [← ef, this] at q
    exact q

def Fw_hued_by : FS := fun ts R => ∃ (web : Int × (List (Int × Int))) (many : Int) (P : (Option (List Int)) → Prop), ts = [(.fz ((eP D.int (eU (eP D.int D.int))) web)), (.fz (D.int many))] ∧ w_hued_by web many P ∧ ∀ (r : Option (List Int)), P  r → R [] ((.fz ((eO (eU D.int)) r)))
def F_hued_by : FS := fun ts R => ∃ (web : Int × (List (Int × Int))) (many : Int), ts = [(.fz ((eP D.int (eU (eP D.int D.int))) web)), (.fz (D.int many))] ∧ huedP web many ∧ R [] ((.fz ((eO (eU D.int)) (huedF web many))))

def b_hued_by : DTS := (dSeq (dSet 2 (dLc (iRange1 (dAConsP (dBin ixD true (dVar 0) (dConst (.fz (.int 0)))) dNil)) (gN 5) dYes (dLc (iSeqD (dCall 2 F_near (dACons (dVar 0) (dACons (dVar 5) dNil)))) (gN 8) (dVal (dBin (cmpI fun i j => decide (i < j)) true (dVar 8) (dVar 5))) (dVar 8) [8]) [5]))
    (dSeq (dSet 3 (dLst (dAConsP (dTup dNil) dNil)))
    (dSeq (dWhile (dVal (dBin neD true (dVar 3) (dLst dNil))) (dSeq (dSet 4 (dMeth0 "list" popN (dVar 3)))
    (dSeq (dSet 5 (dCB1 (fun y R => lenD [y] R) (dVar 4)))
    (dSeq (dIf (dVal (dBin eqD true (dVar 5) (dBin ixD true (dVar 0) (dConst (.fz (.int 0)))))) (dRet (dVar 4)) dNext)
    (dSeq (dSet 6 (dBin addD true (dMaxDef (dVar 4)) (dConst (.fz (.int 1)))))
    (dSeq (dFor (iRange3 (dACons (dBin subD true (dCB min2D (dACons (dVar 1) (dAConsP (dBin addD true (dVar 6) (dConst (.fz (.int 1)))) dNil))) (dConst (.fz (.int 1)))) (dAConsP (dUn negD (dConst (.fz (.int 1)))) (dAConsP (dUn negD (dConst (.fz (.int 1)))) dNil)))) (gN 7) (dSeq (dCut (dIf (dVal (dCB1 (fun y R => allD [y] R) (dLc (iSeqD (dBin ixD true (dVar 2) (dVar 5))) (gN 8) dYes (dBin neD true (dBin ixD true (dVar 4) (dVar 8)) (dVar 7)) [8]))) (dSeq (dExpr (dMeth "list" appendN false (dVar 3) (dACons (dBin addD false (dVar 4) (dTup (dACons (dVar 7) dNil))) dNil)))
    dNext) dNext))
    (dSeq (dKill [7]) dNext)))
    (dSeq (dKill [4, 5, 6]) dNext)))))))
    (dRet (dConst (.fz .non))))))

set_option maxHeartbeats 4000000 in
theorem sim_hued_by : ∀ ts R, ts.length = 2 → Fw_hued_by ts R → b_hued_by ⟨fun G => R (G.take 0) (.fz .non), retW 0 R⟩ (ts.map some ++ List.replicate ((["web", "many", "ties", "waiting", "hues", "place", "fresh", "hue", "other"] : List Str).length - 2) none) := by
  rintro ts R - ⟨web, many, P, rfl, h, hR⟩
  unfold w_hued_by at h
  unfold b_hued_by
  refine q_env (G2 := [some (.fz ((eP D.int (eU (eP D.int D.int))) web)), some (.fz (D.int many)), none, none, none, none, none, none, none]) rfl ?_
  obtain ⟨q1, q2, q5, h⟩ := h
  refine p_setB (fun x => (tLs (eL D.int) x)) (G' := fun ties => [some (.fz ((eP D.int (eU (eP D.int D.int))) web)), some (.fz (D.int many)), some (tLs (eL D.int) ties), none, none, none, none, none, none]) h (sp_lc0 D.int (fun place => ((nearL web place).filter (fun other => decide (other < place))).map (fun other => other)) (eL D.int) (fun place => [some (.fz ((eP D.int (eU (eP D.int D.int))) web)), some (.fz (D.int many)), none, none, none, some (.fz (D.int place)), none, none, none]) (si_range1 (sa_consP (sp_bin (sp_var_fz (i := 0) rfl) rd_fz sp_con rd_fz k_ix0) fz_fz sa_nil) q1) q2 (fun place hx => (sg_name (G' := [some (.fz ((eP D.int (eU (eP D.int D.int))) web)), some (.fz (D.int many)), none, none, none, some (.fz (D.int place)), none, none, none]) (lt_l rfl) rfl)) (fun place hx => (have ⟨q3, q4⟩ := q5 place hx; ⟨_, (sp_lc D.int (fun other => decide (other < place)) (fun other => other) D.int (fun other => [some (.fz ((eP D.int (eU (eP D.int D.int))) web)), some (.fz (D.int many)), none, none, none, some (.fz (D.int place)), none, none, some (.fz (D.int other))]) (si_seqL (sp_call (sa_cons (sp_var_fz (i := 0) rfl) fz_fz (sa_cons (sp_var_fz (i := 5) rfl) fz_fz sa_nil)) rfl rfl (fun R hR => ⟨web, place, rfl, q3, hR⟩)) fz_ls) q4 (fun other hx => (sg_name (G' := [some (.fz ((eP D.int (eU (eP D.int D.int))) web)), some (.fz (D.int many)), none, none, none, some (.fz (D.int place)), none, none, some (.fz (D.int other))]) (lt_l rfl) rfl)) (fun other hx => (st_val (sp_bin (sp_var_fz (i := 8) rfl) rd_fz (sp_var_fz (i := 5) rfl) rd_fz k_lt) rd_fz)) (fun other hx hp => ⟨_, (sp_var_fz (i := 8) rfl), fz_fz⟩) (fun _ => rfl) rfl), fz_ls⟩)) (fun _ => rfl) rfl) (lt_l rfl) (fun _ => rfl) fun ties h => ?_
  refine p_setB (fun x => (tLs (eU D.int) x)) (G' := fun waiting => [some (.fz ((eP D.int (eU (eP D.int D.int))) web)), some (.fz (D.int many)), some (tLs (eL D.int) ties), some (tLs (eU D.int) waiting), none, none, none, none, none]) h (sp_lst (sa_consP (sp_tup sa_nil rfl (Nat.le_of_ble_eq_true rfl)) fz_fz sa_nil) rfl (Nat.le_of_ble_eq_true rfl)) (lt_l rfl) (fun _ => rfl) fun waiting h => ?_
  refine q_while1 (fun (waiting1 : List (List Int)) => [some (.fz ((eP D.int (eU (eP D.int D.int))) web)), some (.fz (D.int many)), some (tLs (eL D.int) ties), some (tLs (eU D.int) waiting1), none, none, none, none, none]) rfl h (fun waiting1 P X C D_ h hC hD => ?_) (fun waiting1 h => ?_)
  · refine (st_val (sp_bin (sp_var (i := 3) rfl trivial) (rd_pk rfl rfl) (sp_lst sa_nil rfl (Nat.le_of_ble_eq_true rfl)) rd_ls (k_ne (a := waiting1) (b := ([] : List (List Int))) (ok_L (ok_U ok_int)) (Nat.le_of_ble_eq_true rfl))) rd_fz) _ ?_
    refine q_ite (fun hb => ?_) (fun hb => hD _ (h.2 hb))
    replace h := h.1 hb
    refine q_set ?_
    obtain ⟨q0, h⟩ := h
    obtain ⟨popped, e_popped, h⟩ := h.get
    obtain ⟨waiting2, e_waiting2, h⟩ := h.get
    refine p_popE (i := 3) (e := (eU D.int)) (x := popped) rfl q0 e_popped (G' := [some (.fz ((eP D.int (eU (eP D.int D.int))) web)), some (.fz (D.int many)), some (tLs (eL D.int) ties), some (tLs (eU D.int) waiting2), none, none, none, none, none]) (by subst e_waiting2; rfl) ?_
    refine w_set (G' := [some (.fz ((eP D.int (eU (eP D.int D.int))) web)), some (.fz (D.int many)), some (tLs (eL D.int) ties), some (tLs (eU D.int) waiting2), some (.fz ((eU D.int) popped)), none, none, none, none]) (lt_l rfl) rfl ?_
    refine p_setB (fun x => (.fz (D.int x))) (G' := fun place1 => [some (.fz ((eP D.int (eU (eP D.int D.int))) web)), some (.fz (D.int many)), some (tLs (eL D.int) ties), some (tLs (eU D.int) waiting2), some (.fz ((eU D.int) popped)), some (.fz (D.int place1)), none, none, none]) h (sp_cb1 (sp_var_fz (i := 4) rfl) rd_fz (k_lenU (e := D.int))) (lt_l rfl) (fun _ => rfl) fun place1 h => ?_
    refine q_seq ?_
    refine p_if (st_val (sp_bin (sp_var_fz (i := 5) rfl) rd_fz (sp_bin (sp_var_fz (i := 0) rfl) rd_fz sp_con rd_fz k_ix0) rd_fz (k_eq (a := place1) (b := web.1) ok_int (Nat.le_of_ble_eq_true rfl))) rd_fz) (fun hb => ?_) (fun hb => ?_)
    · replace h := h.1 hb
      exact p_ret (sp_var_fz (i := 4) rfl) (hR _ h)
    · replace h := h.2 hb
      refine q_nextS ?_
      refine p_setB (fun x => (.fz (D.int x))) (G' := fun fresh => [some (.fz ((eP D.int (eU (eP D.int D.int))) web)), some (.fz (D.int many)), some (tLs (eL D.int) ties), some (tLs (eU D.int) waiting2), some (.fz ((eU D.int) popped)), some (.fz (D.int place1)), some (.fz (D.int fresh)), none, none]) h (sp_bin (sp_maxDef (sp_var_fz (i := 4) rfl) rd_fz) rd_fz sp_con rd_fz k_add) (lt_l rfl) (fun _ => rfl) fun fresh h => ?_
      obtain ⟨q6, h⟩ := h
      refine q_for1 D.int (fun (waiting3 : List (List Int)) => [some (.fz ((eP D.int (eU (eP D.int D.int))) web)), some (.fz (D.int many)), some (tLs (eL D.int) ties), some (tLs (eU D.int) waiting3), some (.fz ((eU D.int) popped)), some (.fz (D.int place1)), some (.fz (D.int fresh)), none, none]) (si_rangeD (sa_cons (sp_bin (sp_cb (sa_cons (sp_var_fz (i := 1) rfl) fz_fz (sa_consP (sp_bin (sp_var_fz (i := 6) rfl) rd_fz sp_con rd_fz k_add) fz_fz sa_nil)) rfl k_min2) rd_fz sp_con rd_fz k_sub) fz_fz (sa_consP (sp_un sp_con rd_fz k_neg) fz_fz (sa_consP (sp_un sp_con rd_fz k_neg) fz_fz sa_nil))) q6) rfl h (fun waiting3 hue P C h hC => ?_) (fun waiting3 h => ?_)
      · refine (sg_name (G' := [some (.fz ((eP D.int (eU (eP D.int D.int))) web)), some (.fz (D.int many)), some (tLs (eL D.int) ties), some (tLs (eU D.int) waiting3), some (.fz ((eU D.int) popped)), some (.fz (D.int place1)), some (.fz (D.int fresh)), some (.fz (D.int hue)), none]) (lt_l rfl) rfl) _ ?_
        refine q_cut1 (fun (waiting4 : List (List Int)) => [some (.fz ((eP D.int (eU (eP D.int D.int))) web)), some (.fz (D.int many)), some (tLs (eL D.int) ties), some (tLs (eU D.int) waiting4), some (.fz ((eU D.int) popped)), some (.fz (D.int place1)), some (.fz (D.int fresh)), some (.fz (D.int hue)), none]) h (fun j1 h => ?_) (fun waiting4 h => ?_)
        · obtain ⟨q7, q8, q10, h⟩ := h
          refine p_if (st_val (sp_cb1 (sp_lc0 D.int (fun other1 => !decide (gi popped other1 = hue)) D.bl (fun other1 => [some (.fz ((eP D.int (eU (eP D.int D.int))) web)), some (.fz (D.int many)), some (tLs (eL D.int) ties), some (tLs (eU D.int) waiting3), some (.fz ((eU D.int) popped)), some (.fz (D.int place1)), some (.fz (D.int fresh)), some (.fz (D.int hue)), some (.fz (D.int other1))]) (si_seqL (sp_bin (sp_var (i := 2) rfl trivial) (rd_pk rfl rfl) (sp_var_fz (i := 5) rfl) rd_fz (k_ixL (e := (eL D.int)) q7)) fz_fz) q8 (fun other1 hx => (sg_name (G' := [some (.fz ((eP D.int (eU (eP D.int D.int))) web)), some (.fz (D.int many)), some (tLs (eL D.int) ties), some (tLs (eU D.int) waiting3), some (.fz ((eU D.int) popped)), some (.fz (D.int place1)), some (.fz (D.int fresh)), some (.fz (D.int hue)), some (.fz (D.int other1))]) (lt_l rfl) rfl)) (fun other1 hx => (have q9 := q10 other1 hx; ⟨_, (sp_bin (sp_bin (sp_var_fz (i := 4) rfl) rd_fz (sp_var_fz (i := 8) rfl) rd_fz (k_ixU (e := D.int) q9)) rd_fz (sp_var_fz (i := 7) rfl) rd_fz (k_ne (a := gi popped other1) (b := hue) ok_int (Nat.le_of_ble_eq_true rfl))), fz_fz⟩)) (fun _ => rfl) rfl) rd_ls k_all) rd_fz) (fun hb => ?_) (fun hb => ?_)
          · replace h := h.1 hb
            obtain ⟨q11, q12, h⟩ := h
            obtain ⟨waiting5, e_waiting5, h⟩ := h.get
            refine p_app (i := 3) (e := (eU D.int)) (x := popped ++ ([hue] : List Int)) rfl (sa_cons (sp_binF (sp_var_fz (i := 4) rfl) fz_fz (sp_tup (sa_cons (sp_var_fz (i := 7) rfl) fz_fz sa_nil) rfl (Nat.le_of_ble_eq_true rfl)) rd_fz (k_catU (e := D.int) q11)) fz_fz sa_nil) q12 (G' := [some (.fz ((eP D.int (eU (eP D.int D.int))) web)), some (.fz (D.int many)), some (tLs (eL D.int) ties), some (tLs (eU D.int) waiting5), some (.fz ((eU D.int) popped)), some (.fz (D.int place1)), some (.fz (D.int fresh)), some (.fz (D.int hue)), none]) (by subst e_waiting5; rfl) ?_
            exact ⟨_, h, rfl⟩
          · replace h := h.2 hb
            exact ⟨_, h, rfl⟩
        refine p_kill (G' := [some (.fz ((eP D.int (eU (eP D.int D.int))) web)), some (.fz (D.int many)), some (tLs (eL D.int) ties), some (tLs (eU D.int) waiting4), some (.fz ((eU D.int) popped)), some (.fz (D.int place1)), some (.fz (D.int fresh)), none, none]) rfl ?_
        exact hC _ h
      refine p_kill (G' := [some (.fz ((eP D.int (eU (eP D.int D.int))) web)), some (.fz (D.int many)), some (tLs (eL D.int) ties), some (tLs (eU D.int) waiting3), none, none, none, none, none]) rfl ?_
      exact hC _ h
  exact p_ret sp_con (hR _ h)
theorem law_hued_by : ∀ ts R, ts.length = 2 → F_hued_by ts R → b_hued_by ⟨fun G => R (G.take 0) (.fz .non), retW 0 R⟩ (ts.map some ++ List.replicate ((["web", "many", "ties", "waiting", "hues", "place", "fresh", "hue", "other"] : List Str).length - 2) none) := by
  rintro ts R hl ⟨web, many, rfl, hp, q⟩
  exact sim_hued_by _ R hl ⟨web, many, fun r => r = huedF web many, rfl, spec_hued_by hp rfl, fun r e => by subst e; exact q⟩

theorem ok_hued_by {f : Addr} {fd : FuncData} (Fd : C8.Def K mg "hued_by" s_hued_by f fd) (bd : Binds K fd ["web", "many"] []) (h_near : Fn P w K mg base 2 "near" 2 0 F_near) (T_all : mg "all" = none) (T_len : mg "len" = none) (T_max : mg "max" = none) (T_min : mg "min" = none) (T_range : mg "range" = none) : Fn P w K mg base 3 "hued_by" 2 0 F_hued_by := by
  refine fn_mk (body := b_hued_by) Fd bd sc_hued_by rfl (by decide) (fun cdv A outer s H E hgd hr => ?_) law_hued_by
  have nd := sc_hued_by.nd
  have hu64 := hr.units
  have hu65 := hu65 hr
  have hu1 := hu1 hr
  have hu2 := hu2 hr
  have hu0 := hr.units0
  exact (dss_cons (ds_setLc (i := 2) (own := [("place", 5)]) rfl nd rfl rfl (sw_true rfl rfl rfl (by decide +kernel)) (by decide) (di_range1 (by rfl) T_range (da_consP (de_ix hu1 (de_var (pv 0)) de_int (fun _ _ => rfl)) da_nil)) (blkOk_by (N := ["web", "many", "ties", "waiting", "hues", "place", "fresh", "hue", "other"]) (sc := C8.fnScope s_hued_by) (by decide +kernel)) (fun _ _ _ _ _ => (dg_name (i := 5) (pg_name (i := 5) nd rfl (by first | exact .inl rfl | exact .inr rfl)) (fun σ x => wipe_set x (by decide)))) (fun _ _ _ _ _ => dts_nil) (fun _ _ _ _ _ => (de_lc (own := [("other", 8)]) rfl nd (di_seq (de_call h_near hgd hr (by decide) (by rfl) (da_cons (de_var (pv 0)) (da_cons (de_var (pv 5)) da_nil)))) (blkOk_by (N := ["web", "many", "ties", "waiting", "hues", "place", "fresh", "hue", "other"]) (sc := relS _ (C8.fnScope s_hued_by)) (by decide +kernel)) (fun _ _ _ _ _ => (dg_name (i := 8) (pg_name (i := 8) nd rfl (by first | exact .inl rfl | exact .inr rfl)) (fun σ x => wipe_set x (by decide)))) (fun _ _ _ _ _ => (dts_one (dt_cmp lt_ok (nomark _) (de_var (pv 8)) (de_var (pv 5))))) (fun _ _ _ _ _ => (de_var (pv 8))))))
    (dss_cons (ds_set (i := 3) nd rfl (.inl rfl) (de_lst (da_consP (de_tup da_nil) da_nil)) (by decide))
    (dss_cons (ds_while PassesOwn.never (dt_cmp (ne_ok hu64) (nomark _) (de_var (pv 3)) (de_lst da_nil)) (dss_cons (ds_set (i := 4) nd rfl (.inr rfl) (de_meth0 (by decide) PySem.F.plainAttrs_list PySem.F.slot_list_pop PySem.F.type_list_pop pop_ok (de_var (pv 3))) (by decide))
    (dss_cons (ds_set (i := 5) nd rfl (.inl rfl) (de_cb1 len_ok (by rfl) T_len (by decide +kernel) (de_var (pv 4))) (by decide))
    (dss_cons (ds_if (dt_cmp (eq_ok hu64) (nomark _) (de_var (pv 5)) (de_ix hu1 (de_var (pv 0)) de_int (fun _ _ => rfl))) (dss_one (ds_ret (de_var (pv 4)))) dss_nil)
    (dss_cons (ds_set (i := 6) nd rfl (.inl rfl) (de_bin add_ok (de_maxDef (by rfl) T_max rfl hu1 (de_var (pv 4))) de_int) (by decide))
    (dss_cons (ds_for PassesOwn.never rfl (di_range3 (by rfl) T_range (da_cons (de_bin sub_ok (de_cbN (min2_ok rfl) (by rfl) T_min (by decide +kernel) (da_cons (de_var (pv 1)) (da_consP (de_bin add_ok (de_var (pv 6)) de_int) da_nil))) de_int) (da_consP (de_un neg_ok de_int) (da_consP (de_un neg_ok de_int) da_nil)))) (dg_name (i := 7) (pg_name (i := 7) nd rfl (.inr rfl)) (fun _ _ => take_set (by decide))) (dss_cons (ds_cut (ds_if (dt_val (de_cb1 (all_ok rfl) (by rfl) T_all (by decide +kernel) (de_lc (own := [("other", 8)]) rfl nd (di_seq (de_ix hu1 (de_var (pv 2)) (de_var (pv 5)) (fun _ _ => rfl))) (blkOk_by (N := ["web", "many", "ties", "waiting", "hues", "place", "fresh", "hue", "other"]) (sc := C8.fnScope s_hued_by) (by decide +kernel)) (fun _ _ _ _ _ => (dg_name (i := 8) (pg_name (i := 8) nd rfl (by first | exact .inl rfl | exact .inr rfl)) (fun σ x => wipe_set x (by decide)))) (fun _ _ _ _ _ => dts_nil) (fun _ _ _ _ _ => (de_cmp (ne_ok hu64) (nomark _) (de_ix hu1 (de_var (pv 4)) (de_var (pv 8)) (fun _ _ => rfl)) (de_var (pv 7))))))) (dss_cons (ds_expr (de_meth (by decide) PySem.F.plainAttrs_list PySem.F.slot_list_append PySem.F.type_list_append append_ok (de_var (pv 3)) (da_cons (de_bin add_ok (de_var (pv 4)) (de_tup (da_cons (de_var (pv 7)) da_nil))) da_nil)))
    dss_nil) dss_nil))
    (dss_kill [7] dss_nil)))
    (dss_kill [4, 5, 6] dss_nil)))))))
    (dss_one (ds_ret de_non)))))

abbrev s_fewest_hues : Stmt := topS 5
theorem sc_fewest_hues : FnScope ["web", "many", "found"] ["web"] (C8.fnScope s_fewest_hues) := C8.fnScope_by (by decide +kernel)

def w_fewest_hues (web : Int × (List (Int × Int))) (Q : (Int × (List Int)) → Prop) : Prop :=
  wWhile1 (0 : Int) (fun many nx ex =>
  wIf (true)
  ((huedP web many) ∧ bnd (huedF web many) fun found =>
  wIf (!found.isNone)
  ((found.isSome = true) ∧ Q (many, found.getD default))
  (bnd (many + (1 : Int)) fun many1 =>
  nx many1))
  (ex many))
  (fun (many : Int) => False)

theorem spec_fewest_hues {w : Web} {Q : Int × List Int → Prop} (h : fewP w) (q : Q (fewF w)) : w_fewest_hues w Q := by
  unfold w_fewest_hues
  have h0 := h.isw.n0
  have hn := h.n24
  refine ⟨fun m many => 0 ≤ many ∧ many ≤ w.1 ∧ (m : Int) = w.1 + 1 - many ∧ fewL w m many = fewF w, ⟨w.1.toNat + 1, Int.le_refl 0, h0, by omega, rfl⟩, ?_⟩
  rintro m many ⟨m0, m1, em, e⟩
  refine ⟨fun _ => ⟨⟨h.isw, hn, m0, by omega⟩, ?_⟩, fun hb => by simp at hb⟩
  rintro _ rfl
  obtain ⟨k, rfl⟩ : ∃ k, m = k + 1 := ⟨m - 1, by omega⟩
  unfold fewL at e
  cases f : huedF w many with
  | none =>
    rw [f, if_pos (by rfl)] at e
    have : many ≠ w.1 := fun z => hued_all h.isw (z ▸ f)
    refine ⟨fun hb => by simp at hb, fun _ => ?_⟩
    rintro _ rfl
    exact ⟨k, by omega, by omega, by omega, by omega, e⟩
  | some g =>
    rw [f, if_neg (by simp)] at e
    refine ⟨fun _ => ⟨rfl, ?_⟩, fun hb => by simp at hb⟩
    rw [e]; exact q

def Fw_fewest_hues : FS := fun ts R => ∃ (web : Int × (List (Int × Int))) (P : (Int × (List Int)) → Prop), ts = [(.fz ((eP D.int (eU (eP D.int D.int))) web))] ∧ w_fewest_hues web P ∧ ∀ (r : Int × (List Int)), P  r → R [] ((.fz ((eP D.int (eU D.int)) r)))
def F_fewest_hues : FS := fun ts R => ∃ (web : Int × (List (Int × Int))), ts = [(.fz ((eP D.int (eU (eP D.int D.int))) web))] ∧ fewP web ∧ R [] ((.fz ((eP D.int (eU D.int)) (fewF web))))

def b_fewest_hues : DTS := (dSeq (dSet 1 (dConst (.fz (.int 0))))
    (dSeq (dWhile (dVal (dConst (.fz (.bl true)))) (dSeq (dSet 2 (dCall 2 F_hued_by (dACons (dVar 0) (dACons (dVar 1) dNil))))
    (dSeq (dIf (dVal (dBin (isNoneD true) true (dVar 2) (dConst (.fz .non)))) (dRet (dTup (dACons (dVar 1) (dACons (dVar 2) dNil)))) dNext)
    (dSeq (dSet 1 (dBin addD true (dVar 1) (dConst (.fz (.int 1)))))
    (dSeq (dKill [2]) dNext)))))
    dNext))

set_option maxHeartbeats 4000000 in
theorem sim_fewest_hues : ∀ ts R, ts.length = 1 → Fw_fewest_hues ts R → b_fewest_hues ⟨fun G => R (G.take 0) (.fz .non), retW 0 R⟩ (ts.map some ++ List.replicate ((["web", "many", "found"] : List Str).length - 1) none) := by
  rintro ts R - ⟨web, P, rfl, h, hR⟩
  unfold w_fewest_hues at h
  unfold b_fewest_hues
  refine q_env (G2 := [some (.fz ((eP D.int (eU (eP D.int D.int))) web)), none, none]) rfl ?_
  refine p_set (G' := [some (.fz ((eP D.int (eU (eP D.int D.int))) web)), some (.fz (D.int (0 : Int))), none]) sp_con (lt_l rfl) rfl ?_
  refine q_while1 (fun (many : Int) => [some (.fz ((eP D.int (eU (eP D.int D.int))) web)), some (.fz (D.int many)), none]) rfl h (fun many P X C D_ h hC hD => ?_) (fun many h => ?_)
  · refine (st_val sp_con rd_fz) _ ?_
    refine q_ite (fun hb => ?_) (fun hb => hD _ (h.2 hb))
    replace h := h.1 hb
    obtain ⟨q1, h⟩ := h
    refine p_setB (fun x => (.fz ((eO (eU D.int)) x))) (G' := fun found => [some (.fz ((eP D.int (eU (eP D.int D.int))) web)), some (.fz (D.int many)), some (.fz ((eO (eU D.int)) found))]) h (sp_call (sa_cons (sp_var_fz (i := 0) rfl) fz_fz (sa_cons (sp_var_fz (i := 1) rfl) fz_fz sa_nil)) rfl rfl (fun R hR => ⟨web, many, rfl, q1, hR⟩)) (lt_l rfl) (fun _ => rfl) fun found h => ?_
    refine q_seq ?_
    refine p_if (st_val (sp_bin (sp_var_fz (i := 2) rfl) rd_fz sp_con rd_fz (k_isnO (fun _ => trivial))) rd_fz) (fun hb => ?_) (fun hb => ?_)
    · replace h := h.1 hb
      obtain ⟨q2, h⟩ := h
      exact p_ret (sp_tup (sa_cons (sp_var_fz (i := 1) rfl) fz_fz (sa_cons (sp_cast (eO_some q2) (sp_var_fz (i := 2) rfl)) fz_fz sa_nil)) rfl (Nat.le_of_ble_eq_true rfl)) (hR _ h)
    · replace h := h.2 hb
      refine q_nextS ?_
      refine p_setB (fun x => (.fz (D.int x))) (G' := fun many1 => [some (.fz ((eP D.int (eU (eP D.int D.int))) web)), some (.fz (D.int many1)), some (.fz ((eO (eU D.int)) found))]) h (sp_bin (sp_var_fz (i := 1) rfl) rd_fz sp_con rd_fz k_add) (lt_l rfl) (fun _ => rfl) fun many1 h => ?_
      refine p_kill (G' := [some (.fz ((eP D.int (eU (eP D.int D.int))) web)), some (.fz (D.int many1)), none]) rfl ?_
      exact hC _ h
  exact h.elim
theorem law_fewest_hues : ∀ ts R, ts.length = 1 → F_fewest_hues ts R → b_fewest_hues ⟨fun G => R (G.take 0) (.fz .non), retW 0 R⟩ (ts.map some ++ List.replicate ((["web", "many", "found"] : List Str).length - 1) none) := by
  rintro ts R hl ⟨web, rfl, hp, q⟩
  exact sim_fewest_hues _ R hl ⟨web, fun r => r = fewF web, rfl, spec_fewest_hues hp rfl, fun r e => by subst e; exact q⟩

theorem ok_fewest_hues {f : Addr} {fd : FuncData} (Fd : C8.Def K mg "fewest_hues" s_fewest_hues f fd) (bd : Binds K fd ["web"] []) (h_hued_by : Fn P w K mg base 3 "hued_by" 2 0 F_hued_by) : Fn P w K mg base 4 "fewest_hues" 1 0 F_fewest_hues := by
  refine fn_mk (body := b_fewest_hues) Fd bd sc_fewest_hues rfl (by decide) (fun cdv A outer s H E hgd hr => ?_) law_fewest_hues
  have nd := sc_fewest_hues.nd
  have hu64 := hr.units
  have hu65 := hu65 hr
  have hu1 := hu1 hr
  have hu2 := hu2 hr
  have hu0 := hr.units0
  exact (dss_cons (ds_set (i := 1) nd rfl (.inl rfl) de_int (by decide))
    (dss_cons (ds_while PassesOwn.never (dt_val de_bl) (dss_cons (ds_set (i := 2) nd rfl (.inl rfl) (de_call h_hued_by hgd hr (by decide) (by rfl) (da_cons (de_var (pv 0)) (da_cons (de_var (pv 1)) da_nil))) (by decide))
    (dss_cons (ds_if (dt_cmp notN_ok (nomark _) (de_var (pv 2)) de_non) (dss_one (ds_ret (de_tup (da_cons (de_var (pv 1)) (da_cons (de_var (pv 2)) da_nil))))) dss_nil)
    (dss_cons (ds_set (i := 1) nd rfl (.inl rfl) (de_bin add_ok (de_var (pv 1)) de_int) (by decide))
    (dss_kill [2] dss_nil)))))
    dss_nil))

abbrev s__law_tpen : Stmt := topS 7
theorem sc__law_tpen : FnScope ["script", "mixed", "cell"] ["script"] (C8.fnScope s__law_tpen) := C8.fnScope_by (by decide +kernel)


def b__law_tpen : DTS := (dSeq (dSet 1 (dConst (.fz (.int 7))))
    (dSeq (dFor (iSeqD (dVar 0)) (gN 2) (dSet 1 (dBin modD true (dBin addD true (dBin addD true (dBin mulD true (dVar 1) (dConst (.fz (.int 48271)))) (dBin modD true (dVar 2) (dConst (.fz (.int 1000000007))))) (dConst (.fz (.int 11)))) (dConst (.fz (.int 2147483629))))))
    (dRet (dDisp3 "mixed" "turn" "wide" (dVar 1) (dConst (.fz (.int 0))) (dLc (iSeqD (dVar 0)) (gN 2) (dVal (dBin (cmpI fun i j => decide (j ≤ i)) true (dVar 2) (dBin powD true (dConst (.fz (.int 10))) (dConst (.fz (.int 15)))))) (dVar 2) [2])))))

theorem law__law_tpen : ∀ ts R, ts.length = 1 → F__law_tpen ts R → b__law_tpen ⟨fun G => R (G.take 0) (.fz .non), retW 0 R⟩ (ts.map some ++ List.replicate ((["script", "mixed", "cell"] : List Str).length - 1) none) := by
  rintro ts R - ⟨c, P, rfl, ⟨hc, q1⟩, q2⟩
  have q : ∀ (m : Int) (w : List Int), 0 ≤ m ∧ m < 2147483629 → (∀ x ∈ w, 0 ≤ x) → R [] (penM m 0 (w.map D.int)) := fun m w h1 h2 => q2 ⟨m, 0, w⟩ (q1 _ ⟨h1.1, h1.2, Int.le_refl _, Int.le_refl _, h2⟩)
  unfold b__law_tpen
  simp only [↓dConst_ap, ↓dVar_ap, ↓dBin_ap, ↓dUn_ap, ↓dVal_ap, ↓dAnd_ap, ↓dOr_ap, ↓dNot_ap, ↓dIfE_ap, ↓dOfT_ap, ↓dBV_ap, ↓dAndV_ap, ↓dOrV_ap, ↓dNotV_ap, ↓dNil_ap, ↓dACons_ap, ↓dAConsP_ap, ↓dALend_ap, ↓dTup_ap, ↓dLst_ap, ↓dCB_ap, ↓dCall_ap, ↓dCallP_ap, ↓dNext_ap, ↓dSeq_ap, ↓dIf_ap, ↓dExpr_ap, ↓dRet_ap, ↓gN_ap, ↓gsNil_ap, ↓gsCons_ap, ↓gT_ap, ↓dSet_ap, ↓dAsg_ap, ↓iSeqD_ap, ↓iRange1_ap, ↓iRange2_ap, ↓iRange3_ap, ↓iEnumD_ap, ↓iZipD_ap, ↓dFor_ap, ↓dYes_ap, ↓oNone_ap, ↓dSlice_ap, ↓dMeth_ap, ↓dMeth0_ap, ↓dStore_ap, ↓dNewK_ap, ↓dNewT_ap, ↓dChain_ap, ↓dPar_ap, ↓dListR1_ap, ↓dNews_ap, ↓dKid_ap, ↓dKidK_ap, ↓dIxV_ap, ↓dDisp3_ap, ↓iDict_ap, ↓dListR2_ap, ↓dCallV_ap, ↓dRevL_ap, ↓dRdV_ap, ↓dCallB_ap, ↓dLenSet_ap, ↓dFld_ap, ↓dFPut_ap, ↓dFPutZ_ap, ↓dRetN_ap, ↓dMth_ap, ↓dMake_ap, ↓dAppNew_ap, ↓dLenLL_ap, ↓dNewLL_ap, ↓dLcQ_ap, ↓iEnumTD_ap, ↓dSortSet_ap, ↓dMaxDef_ap, ↓dCB1_ap, ↓setW_t, ↓setW_pk, ↓isB_bl, ↓isI_int, ↓fzP_t, ↓withD_nil, ↓withD_d, ↓addD_i, ↓addD_l, ↓addD_t, ↓subD_i, ↓mulD_i, ↓mulD_l, ↓mulD_t, ↓divD_i, ↓modD_i, ↓powD_i, ↓negD_i, ↓cmpI_i, ↓eqD_ap, ↓neD_ap, ↓inD_l, ↓inD_t, ↓inD_ki, ↓inD_kt, ↓getD'_some, ↓ixD_l, ↓ixD_t, ↓ixD_s, ↓ixD_ki, ↓ixD_kt, ↓lenD_l, ↓lenD_t, ↓lenD_s, ↓min2D_i, ↓max2D_i, ↓absD_i, ↓intD_i, ↓intD_b, ↓listD_l, ↓listD_t, ↓tupleD_l, ↓tupleD_t, ↓dictTD_l, ↓reprN_ap, ↓isinstD_ap, ↓sliceD_l, ↓sliceD_t, ↓oSome_ap', ↓appendN_ap, ↓extendN_ap, ↓popN_ap, ↓popAtN_ap, ↓reverseN_ap, ↓setL'_some, ↓storeN_l, ↓storeN_k, ↓storeN_t, ↓kidM_mixed, ↓kidM_turn, ↓kidM_wide, ↓kid_wide, ↓setKid_wide, ↓storeN_turn, ↓penM_eq, ↓fzW_tt, ↓fzW_pk, ↓rdW_t, ↓rdW_pk, ↓rdT_fz, ↓rdT_ls, ↓rdT_dk, ↓rdT_dt, ↓fzT_fz, ↓fzT_ls, ↓fzT_dk, ↓fzT_dt, atE_none, setE_none, atE_some, setE_some, lendE, backE, atI_0, atI_1, atI_2, atI_3, ixN_0, ixN_1, ixN_2, DL.keyOf, keysOf, T.ty, retW, List.map_cons, List.map_nil, List.cons_append, List.nil_append, List.replicate, List.getElem?_cons_zero, List.getElem?_cons_succ, List.set_cons_zero, List.set_cons_succ, List.length_cons, List.length_nil, Option.map_some, Option.map_none, List.take_succ_cons, List.take_zero, List.take_nil]
  repeat (with_reducible refine And.intro ?_ ?_; · first | exact True.intro | omega | exact Or.inr True.intro | exact Or.inl True.intro | exact ⟨_, rfl, rfl⟩ | exact ⟨_, rfl⟩ | exact shp_int _ | (with_reducible decide))
  refine forW_map _ (fun _ G => ∃ (m : Int) (x2 : Option T), 0 ≤ m ∧ m < 2147483629 ∧ G = [some (.fz (.scr c)), some (.fz (.int m)), x2]) c ⟨7, none, by decide, by decide, rfl⟩ ?_ ?_
  · rintro G ⟨m, x2, h1, h2, rfl⟩
    simp only [↓dConst_ap, ↓dVar_ap, ↓dBin_ap, ↓dUn_ap, ↓dVal_ap, ↓dAnd_ap, ↓dOr_ap, ↓dNot_ap, ↓dIfE_ap, ↓dOfT_ap, ↓dBV_ap, ↓dAndV_ap, ↓dOrV_ap, ↓dNotV_ap, ↓dNil_ap, ↓dACons_ap, ↓dAConsP_ap, ↓dALend_ap, ↓dTup_ap, ↓dLst_ap, ↓dCB_ap, ↓dCall_ap, ↓dCallP_ap, ↓dNext_ap, ↓dSeq_ap, ↓dIf_ap, ↓dExpr_ap, ↓dRet_ap, ↓gN_ap, ↓gsNil_ap, ↓gsCons_ap, ↓gT_ap, ↓dSet_ap, ↓dAsg_ap, ↓iSeqD_ap, ↓iRange1_ap, ↓iRange2_ap, ↓iRange3_ap, ↓iEnumD_ap, ↓iZipD_ap, ↓dFor_ap, ↓dYes_ap, ↓oNone_ap, ↓dSlice_ap, ↓dMeth_ap, ↓dMeth0_ap, ↓dStore_ap, ↓dNewK_ap, ↓dNewT_ap, ↓dChain_ap, ↓dPar_ap, ↓dListR1_ap, ↓dNews_ap, ↓dKid_ap, ↓dKidK_ap, ↓dIxV_ap, ↓dDisp3_ap, ↓iDict_ap, ↓dListR2_ap, ↓dCallV_ap, ↓dRevL_ap, ↓dRdV_ap, ↓dCallB_ap, ↓dLenSet_ap, ↓dFld_ap, ↓dFPut_ap, ↓dFPutZ_ap, ↓dRetN_ap, ↓dMth_ap, ↓dMake_ap, ↓dAppNew_ap, ↓dLenLL_ap, ↓dNewLL_ap, ↓dLcQ_ap, ↓iEnumTD_ap, ↓dSortSet_ap, ↓dMaxDef_ap, ↓dCB1_ap, ↓setW_t, ↓setW_pk, ↓isB_bl, ↓isI_int, ↓fzP_t, ↓withD_nil, ↓withD_d, ↓addD_i, ↓addD_l, ↓addD_t, ↓subD_i, ↓mulD_i, ↓mulD_l, ↓mulD_t, ↓divD_i, ↓modD_i, ↓powD_i, ↓negD_i, ↓cmpI_i, ↓eqD_ap, ↓neD_ap, ↓inD_l, ↓inD_t, ↓inD_ki, ↓inD_kt, ↓getD'_some, ↓ixD_l, ↓ixD_t, ↓ixD_s, ↓ixD_ki, ↓ixD_kt, ↓lenD_l, ↓lenD_t, ↓lenD_s, ↓min2D_i, ↓max2D_i, ↓absD_i, ↓intD_i, ↓intD_b, ↓listD_l, ↓listD_t, ↓tupleD_l, ↓tupleD_t, ↓dictTD_l, ↓reprN_ap, ↓isinstD_ap, ↓sliceD_l, ↓sliceD_t, ↓oSome_ap', ↓appendN_ap, ↓extendN_ap, ↓popN_ap, ↓popAtN_ap, ↓reverseN_ap, ↓setL'_some, ↓storeN_l, ↓storeN_k, ↓storeN_t, ↓kidM_mixed, ↓kidM_turn, ↓kidM_wide, ↓kid_wide, ↓setKid_wide, ↓storeN_turn, ↓penM_eq, ↓fzW_tt, ↓fzW_pk, ↓rdW_t, ↓rdW_pk, ↓rdT_fz, ↓rdT_ls, ↓rdT_dk, ↓rdT_dt, ↓fzT_fz, ↓fzT_ls, ↓fzT_dk, ↓fzT_dt, atE_none, setE_none, atE_some, setE_some, lendE, backE, atI_0, atI_1, atI_2, atI_3, ixN_0, ixN_1, ixN_2, DL.keyOf, keysOf, T.ty, retW, List.map_cons, List.map_nil, List.cons_append, List.nil_append, List.replicate, List.getElem?_cons_zero, List.getElem?_cons_succ, List.set_cons_zero, List.set_cons_succ, List.length_cons, List.length_nil, Option.map_some, Option.map_none, List.take_succ_cons, List.take_zero, List.take_nil]
    repeat (with_reducible refine And.intro ?_ ?_; · first | exact True.intro | omega | exact Or.inr True.intro | exact Or.inl True.intro | exact ⟨_, rfl, rfl⟩ | exact ⟨_, rfl⟩ | exact shp_int _ | (with_reducible decide))
    simp only [dLc, ↓dConst_ap, ↓dVar_ap, ↓dBin_ap, ↓dUn_ap, ↓dVal_ap, ↓dAnd_ap, ↓dOr_ap, ↓dNot_ap, ↓dIfE_ap, ↓dOfT_ap, ↓dBV_ap, ↓dAndV_ap, ↓dOrV_ap, ↓dNotV_ap, ↓dNil_ap, ↓dACons_ap, ↓dAConsP_ap, ↓dALend_ap, ↓dTup_ap, ↓dLst_ap, ↓dCB_ap, ↓dCall_ap, ↓dCallP_ap, ↓dNext_ap, ↓dSeq_ap, ↓dIf_ap, ↓dExpr_ap, ↓dRet_ap, ↓gN_ap, ↓gsNil_ap, ↓gsCons_ap, ↓gT_ap, ↓dSet_ap, ↓dAsg_ap, ↓iSeqD_ap, ↓iRange1_ap, ↓iRange2_ap, ↓iRange3_ap, ↓iEnumD_ap, ↓iZipD_ap, ↓dFor_ap, ↓dYes_ap, ↓oNone_ap, ↓dSlice_ap, ↓dMeth_ap, ↓dMeth0_ap, ↓dStore_ap, ↓dNewK_ap, ↓dNewT_ap, ↓dChain_ap, ↓dPar_ap, ↓dListR1_ap, ↓dNews_ap, ↓dKid_ap, ↓dKidK_ap, ↓dIxV_ap, ↓dDisp3_ap, ↓iDict_ap, ↓dListR2_ap, ↓dCallV_ap, ↓dRevL_ap, ↓dRdV_ap, ↓dCallB_ap, ↓dLenSet_ap, ↓dFld_ap, ↓dFPut_ap, ↓dFPutZ_ap, ↓dRetN_ap, ↓dMth_ap, ↓dMake_ap, ↓dAppNew_ap, ↓dLenLL_ap, ↓dNewLL_ap, ↓dLcQ_ap, ↓iEnumTD_ap, ↓dSortSet_ap, ↓dMaxDef_ap, ↓dCB1_ap, ↓setW_t, ↓setW_pk, ↓isB_bl, ↓isI_int, ↓fzP_t, ↓withD_nil, ↓withD_d, ↓addD_i, ↓addD_l, ↓addD_t, ↓subD_i, ↓mulD_i, ↓mulD_l, ↓mulD_t, ↓divD_i, ↓modD_i, ↓powD_i, ↓negD_i, ↓cmpI_i, ↓eqD_ap, ↓neD_ap, ↓inD_l, ↓inD_t, ↓inD_ki, ↓inD_kt, ↓getD'_some, ↓ixD_l, ↓ixD_t, ↓ixD_s, ↓ixD_ki, ↓ixD_kt, ↓lenD_l, ↓lenD_t, ↓lenD_s, ↓min2D_i, ↓max2D_i, ↓absD_i, ↓intD_i, ↓intD_b, ↓listD_l, ↓listD_t, ↓tupleD_l, ↓tupleD_t, ↓dictTD_l, ↓reprN_ap, ↓isinstD_ap, ↓sliceD_l, ↓sliceD_t, ↓oSome_ap', ↓appendN_ap, ↓extendN_ap, ↓popN_ap, ↓popAtN_ap, ↓reverseN_ap, ↓setL'_some, ↓storeN_l, ↓storeN_k, ↓storeN_t, ↓kidM_mixed, ↓kidM_turn, ↓kidM_wide, ↓kid_wide, ↓setKid_wide, ↓storeN_turn, ↓penM_eq, ↓fzW_tt, ↓fzW_pk, ↓rdW_t, ↓rdW_pk, ↓rdT_fz, ↓rdT_ls, ↓rdT_dk, ↓rdT_dt, ↓fzT_fz, ↓fzT_ls, ↓fzT_dk, ↓fzT_dt, atE_none, setE_none, atE_some, setE_some, lendE, backE, atI_0, atI_1, atI_2, atI_3, ixN_0, ixN_1, ixN_2, DL.keyOf, keysOf, T.ty, retW, List.map_cons, List.map_nil, List.cons_append, List.nil_append, List.replicate, List.getElem?_cons_zero, List.getElem?_cons_succ, List.set_cons_zero, List.set_cons_succ, List.length_cons, List.length_nil, Option.map_some, Option.map_none, List.take_succ_cons, List.take_zero, List.take_nil]
    repeat (with_reducible refine And.intro ?_ ?_; · first | exact True.intro | omega | exact Or.inr True.intro | exact Or.inl True.intro | exact ⟨_, rfl, rfl⟩ | exact ⟨_, rfl⟩ | exact shp_int _ | (with_reducible decide))
    refine compW_map _ (fun pre acc G => ∃ (w : List Int) (x2 : Option T), w.length ≤ pre.length ∧ (∀ x ∈ w, 0 ≤ x) ∧ acc = w.map D.int ∧ G = [some (.fz (.scr c)), some (.fz (.int m)), x2]) c ⟨[], _, Nat.le_refl _, (fun _ m => nomatch m), rfl, rfl⟩ ?_ ?_
    · rintro G acc ⟨w, x3, hl, hw, rfl, rfl⟩
      exact q m w ⟨h1, h2⟩ hw
    · rintro pre x post acc G C e ⟨w, x3, hl, hw, rfl, rfl⟩ k
      simp only [↓dConst_ap, ↓dVar_ap, ↓dBin_ap, ↓dUn_ap, ↓dVal_ap, ↓dAnd_ap, ↓dOr_ap, ↓dNot_ap, ↓dIfE_ap, ↓dOfT_ap, ↓dBV_ap, ↓dAndV_ap, ↓dOrV_ap, ↓dNotV_ap, ↓dNil_ap, ↓dACons_ap, ↓dAConsP_ap, ↓dALend_ap, ↓dTup_ap, ↓dLst_ap, ↓dCB_ap, ↓dCall_ap, ↓dCallP_ap, ↓dNext_ap, ↓dSeq_ap, ↓dIf_ap, ↓dExpr_ap, ↓dRet_ap, ↓gN_ap, ↓gsNil_ap, ↓gsCons_ap, ↓gT_ap, ↓dSet_ap, ↓dAsg_ap, ↓iSeqD_ap, ↓iRange1_ap, ↓iRange2_ap, ↓iRange3_ap, ↓iEnumD_ap, ↓iZipD_ap, ↓dFor_ap, ↓dYes_ap, ↓oNone_ap, ↓dSlice_ap, ↓dMeth_ap, ↓dMeth0_ap, ↓dStore_ap, ↓dNewK_ap, ↓dNewT_ap, ↓dChain_ap, ↓dPar_ap, ↓dListR1_ap, ↓dNews_ap, ↓dKid_ap, ↓dKidK_ap, ↓dIxV_ap, ↓dDisp3_ap, ↓iDict_ap, ↓dListR2_ap, ↓dCallV_ap, ↓dRevL_ap, ↓dRdV_ap, ↓dCallB_ap, ↓dLenSet_ap, ↓dFld_ap, ↓dFPut_ap, ↓dFPutZ_ap, ↓dRetN_ap, ↓dMth_ap, ↓dMake_ap, ↓dAppNew_ap, ↓dLenLL_ap, ↓dNewLL_ap, ↓dLcQ_ap, ↓iEnumTD_ap, ↓dSortSet_ap, ↓dMaxDef_ap, ↓dCB1_ap, ↓setW_t, ↓setW_pk, ↓isB_bl, ↓isI_int, ↓fzP_t, ↓withD_nil, ↓withD_d, ↓addD_i, ↓addD_l, ↓addD_t, ↓subD_i, ↓mulD_i, ↓mulD_l, ↓mulD_t, ↓divD_i, ↓modD_i, ↓powD_i, ↓negD_i, ↓cmpI_i, ↓eqD_ap, ↓neD_ap, ↓inD_l, ↓inD_t, ↓inD_ki, ↓inD_kt, ↓getD'_some, ↓ixD_l, ↓ixD_t, ↓ixD_s, ↓ixD_ki, ↓ixD_kt, ↓lenD_l, ↓lenD_t, ↓lenD_s, ↓min2D_i, ↓max2D_i, ↓absD_i, ↓intD_i, ↓intD_b, ↓listD_l, ↓listD_t, ↓tupleD_l, ↓tupleD_t, ↓dictTD_l, ↓reprN_ap, ↓isinstD_ap, ↓sliceD_l, ↓sliceD_t, ↓oSome_ap', ↓appendN_ap, ↓extendN_ap, ↓popN_ap, ↓popAtN_ap, ↓reverseN_ap, ↓setL'_some, ↓storeN_l, ↓storeN_k, ↓storeN_t, ↓kidM_mixed, ↓kidM_turn, ↓kidM_wide, ↓kid_wide, ↓setKid_wide, ↓storeN_turn, ↓penM_eq, ↓fzW_tt, ↓fzW_pk, ↓rdW_t, ↓rdW_pk, ↓rdT_fz, ↓rdT_ls, ↓rdT_dk, ↓rdT_dt, ↓fzT_fz, ↓fzT_ls, ↓fzT_dk, ↓fzT_dt, atE_none, setE_none, atE_some, setE_some, lendE, backE, atI_0, atI_1, atI_2, atI_3, ixN_0, ixN_1, ixN_2, DL.keyOf, keysOf, T.ty, retW, List.map_cons, List.map_nil, List.cons_append, List.nil_append, List.replicate, List.getElem?_cons_zero, List.getElem?_cons_succ, List.set_cons_zero, List.set_cons_succ, List.length_cons, List.length_nil, Option.map_some, Option.map_none, List.take_succ_cons, List.take_zero, List.take_nil, wipeE]
      have hp : pre.length < c.length := by rw [e]; simp
      refine ⟨by rw [List.length_map]; omega, by decide, by unfold CPow; decide, ?_⟩
      split
      · rename_i h
        have h := of_decide_eq_true h
        refine k _ _ ⟨w ++ [x], _, by simp; omega, fun y m => ?_, by rw [List.map_append]; rfl, rfl⟩
        rcases List.mem_append.mp m with m | m
        · exact hw y m
        · rw [List.mem_singleton.mp m]
          have : (0 : Int) ≤ 10 ^ Int.toNat 15 := by decide
          omega
      · exact k _ _ ⟨w, _, by simp; omega, hw, rfl, rfl⟩
  · rintro pre x post G C e ⟨m, x2, h1, h2, rfl⟩ k
    simp only [↓dConst_ap, ↓dVar_ap, ↓dBin_ap, ↓dUn_ap, ↓dVal_ap, ↓dAnd_ap, ↓dOr_ap, ↓dNot_ap, ↓dIfE_ap, ↓dOfT_ap, ↓dBV_ap, ↓dAndV_ap, ↓dOrV_ap, ↓dNotV_ap, ↓dNil_ap, ↓dACons_ap, ↓dAConsP_ap, ↓dALend_ap, ↓dTup_ap, ↓dLst_ap, ↓dCB_ap, ↓dCall_ap, ↓dCallP_ap, ↓dNext_ap, ↓dSeq_ap, ↓dIf_ap, ↓dExpr_ap, ↓dRet_ap, ↓gN_ap, ↓gsNil_ap, ↓gsCons_ap, ↓gT_ap, ↓dSet_ap, ↓dAsg_ap, ↓iSeqD_ap, ↓iRange1_ap, ↓iRange2_ap, ↓iRange3_ap, ↓iEnumD_ap, ↓iZipD_ap, ↓dFor_ap, ↓dYes_ap, ↓oNone_ap, ↓dSlice_ap, ↓dMeth_ap, ↓dMeth0_ap, ↓dStore_ap, ↓dNewK_ap, ↓dNewT_ap, ↓dChain_ap, ↓dPar_ap, ↓dListR1_ap, ↓dNews_ap, ↓dKid_ap, ↓dKidK_ap, ↓dIxV_ap, ↓dDisp3_ap, ↓iDict_ap, ↓dListR2_ap, ↓dCallV_ap, ↓dRevL_ap, ↓dRdV_ap, ↓dCallB_ap, ↓dLenSet_ap, ↓dFld_ap, ↓dFPut_ap, ↓dFPutZ_ap, ↓dRetN_ap, ↓dMth_ap, ↓dMake_ap, ↓dAppNew_ap, ↓dLenLL_ap, ↓dNewLL_ap, ↓dLcQ_ap, ↓iEnumTD_ap, ↓dSortSet_ap, ↓dMaxDef_ap, ↓dCB1_ap, ↓setW_t, ↓setW_pk, ↓isB_bl, ↓isI_int, ↓fzP_t, ↓withD_nil, ↓withD_d, ↓addD_i, ↓addD_l, ↓addD_t, ↓subD_i, ↓mulD_i, ↓mulD_l, ↓mulD_t, ↓divD_i, ↓modD_i, ↓powD_i, ↓negD_i, ↓cmpI_i, ↓eqD_ap, ↓neD_ap, ↓inD_l, ↓inD_t, ↓inD_ki, ↓inD_kt, ↓getD'_some, ↓ixD_l, ↓ixD_t, ↓ixD_s, ↓ixD_ki, ↓ixD_kt, ↓lenD_l, ↓lenD_t, ↓lenD_s, ↓min2D_i, ↓max2D_i, ↓absD_i, ↓intD_i, ↓intD_b, ↓listD_l, ↓listD_t, ↓tupleD_l, ↓tupleD_t, ↓dictTD_l, ↓reprN_ap, ↓isinstD_ap, ↓sliceD_l, ↓sliceD_t, ↓oSome_ap', ↓appendN_ap, ↓extendN_ap, ↓popN_ap, ↓popAtN_ap, ↓reverseN_ap, ↓setL'_some, ↓storeN_l, ↓storeN_k, ↓storeN_t, ↓kidM_mixed, ↓kidM_turn, ↓kidM_wide, ↓kid_wide, ↓setKid_wide, ↓storeN_turn, ↓penM_eq, ↓fzW_tt, ↓fzW_pk, ↓rdW_t, ↓rdW_pk, ↓rdT_fz, ↓rdT_ls, ↓rdT_dk, ↓rdT_dt, ↓fzT_fz, ↓fzT_ls, ↓fzT_dk, ↓fzT_dt, atE_none, setE_none, atE_some, setE_some, lendE, backE, atI_0, atI_1, atI_2, atI_3, ixN_0, ixN_1, ixN_2, DL.keyOf, keysOf, T.ty, retW, List.map_cons, List.map_nil, List.cons_append, List.nil_append, List.replicate, List.getElem?_cons_zero, List.getElem?_cons_succ, List.set_cons_zero, List.set_cons_succ, List.length_cons, List.length_nil, Option.map_some, Option.map_none, List.take_succ_cons, List.take_zero, List.take_nil]
    repeat (with_reducible refine And.intro ?_ ?_; · first | exact True.intro | omega | exact Or.inr True.intro | exact Or.inl True.intro | exact ⟨_, rfl, rfl⟩ | exact ⟨_, rfl⟩ | exact shp_int _ | (with_reducible decide))
    have h3 := mod_in (a := m * 48271 + x % 1000000007 + 11) (b := 2147483629) (by decide)
    exact ⟨mul_r (by decide), by decide, by decide, by decide, k _ ⟨_, _, h3.1, h3.2, rfl⟩⟩

theorem ok__law_tpen {f : Addr} {fd : FuncData} (Fd : C8.Def K mg "_law_tpen" s__law_tpen f fd) (bd : Binds K fd ["script"] []) : Fn P w K mg base 1 "_law_tpen" 1 0 F__law_tpen := by
  refine fn_mk (body := b__law_tpen) Fd bd sc__law_tpen rfl (by decide) (fun cdv A outer s H E hgd hr => ?_) law__law_tpen
  have nd := sc__law_tpen.nd
  have hu64 := hr.units
  have hu65 := hu65 hr
  have hu1 := hu1 hr
  have hu2 := hu2 hr
  have hu0 := hr.units0
  exact (dss_cons (ds_set (i := 1) nd rfl (.inl rfl) de_int (by decide))
    (dss_cons (ds_for PassesOwn.never rfl (di_seq (de_var (pv 0))) (dg_name (i := 2) (pg_name (i := 2) nd rfl (.inl rfl)) (fun _ _ => take_set (by decide))) (dss_one (ds_set (i := 1) nd rfl (.inl rfl) (de_bin mod_ok (de_bin add_ok (de_bin add_ok (de_bin mul_ok (de_var (pv 1)) de_int) (de_bin mod_ok (de_var (pv 2)) de_int)) de_int) de_int) (by decide))))
    (dss_one (ds_ret (de_disp3 (by decide +kernel) (by decide +kernel) (by decide +kernel) (de_var (pv 1)) de_int (de_lc (own := [("cell", 2)]) rfl nd (di_seq (de_var (pv 0))) (blkOk_by (N := ["script", "mixed", "cell"]) (sc := C8.fnScope s__law_tpen) (by decide +kernel)) (fun _ _ _ _ _ => (dg_name (i := 2) (pg_name (i := 2) nd rfl (by first | exact .inl rfl | exact .inr rfl)) (fun σ x => wipe_set x (by decide)))) (fun _ _ _ _ _ => (dts_one (dt_cmp ge_ok (nomark _) (de_var (pv 2)) (de_bin pow_ok de_int de_int)))) (fun _ _ _ _ _ => (de_var (pv 2)))))))))

abbrev s__law_tdraw : Stmt := topS 8
theorem sc__law_tdraw : FnScope ["pen", "many", "one", "two", "found"] ["pen", "many"] (C8.fnScope s__law_tdraw) := C8.fnScope_by (by decide +kernel)


def b__law_tdraw : DTS := (dSeq (dCut (dIf (dAnd (dVal (dBin (cmpI fun i j => decide (j < i)) true (dCB1 (fun y R => lenD [y] R) (dKidK "wide" (dVar 0))) (dConst (.fz (.int 0))))) (dVal (dBin (cmpI fun i j => decide (i < j)) true (dBin ixD true (dKidK "wide" (dVar 0)) (dConst (.fz (.int 0)))) (dVar 1)))) (dExpr (dMeth "list" popAtN true (dKidK "wide" (dVar 0)) (dAConsP (dConst (.fz (.int 0))) dNil))) dNext))
    (dSeq (dIf (dVal (dBin (cmpI fun i j => decide (j < i)) true (dCB1 (fun y R => lenD [y] R) (dKidK "wide" (dVar 0))) (dConst (.fz (.int 0))))) (dSeq (dSet 4 (dBin modD true (dBin ixD true (dKidK "wide" (dVar 0)) (dConst (.fz (.int 0)))) (dVar 1)))
    (dSeq (dStore true (dBin divD true (dBin ixD true (dKidK "wide" (dVar 0)) (dConst (.fz (.int 0)))) (dVar 1)) (dKidK "wide" (dVar 0)) (dConst (.fz (.int 0))))
    (dRet (dVar 4)))) dNext)
    (dSeq (dStore true (dBin addD true (dKidK "turn" (dVar 0)) (dConst (.fz (.int 1)))) (dVar 0) (dConst (.fz (.str (Str.ofString "turn")))))
    (dSeq (dSet 2 (dBin modD true (dBin addD true (dKidK "mixed" (dVar 0)) (dBin mulD true (dBin mulD true (dConst (.fz (.int 7919))) (dKidK "turn" (dVar 0))) (dKidK "turn" (dVar 0)))) (dConst (.fz (.int 2147483629)))))
    (dSeq (dSet 3 (dBin modD true (dBin addD true (dBin addD true (dBin mulD true (dVar 2) (dVar 2)) (dBin mulD true (dConst (.fz (.int 40692))) (dKidK "turn" (dVar 0)))) (dConst (.fz (.int 3)))) (dConst (.fz (.int 998244353)))))
    (dRet (dBin modD true (dBin divD true (dBin modD true (dBin addD true (dBin mulD true (dVar 3) (dVar 3)) (dVar 2)) (dConst (.fz (.int 2147483587)))) (dConst (.fz (.int 16)))) (dVar 1))))))))

theorem law__law_tdraw : ∀ ts R, ts.length = 2 → F__law_tdraw ts R → b__law_tdraw ⟨fun G => R (G.take 1) (.fz .non), retW 1 R⟩ (ts.map some ++ List.replicate ((["pen", "many", "one", "two", "found"] : List Str).length - 2) none) := by
  rintro ts R - ⟨⟨m, t, w⟩, many, P, rfl, ⟨c0, hp, hc0, hy, hy2, q1⟩, q2⟩
  have hm : 0 ≤ m := hp.m0
  have hm2 : m < 2147483629 := hp.m1
  have ht : 0 ≤ t := hp.t0
  have htc : t ≤ c0 := hp.tc
  have ht2 : t < 2 ^ 60 := by omega
  have hw : ∀ x ∈ w, 0 ≤ x := hp.w0
  have q : ∀ (t' : Int) (w' : List Int) (x : Nat), 0 ≤ t' → t' ≤ t + 1 → (∀ x ∈ w', 0 ≤ x) → (x : Int) < many → R [some (penM m t' (w'.map D.int))] (.fz (.int x)) := fun t' w' x h1 h2 h3 h4 =>
    q2 ⟨m, t', w'⟩ x (q1 _ _ ⟨hm, hm2, h1, by show t' ≤ ((c0 + 1 : Nat) : Int); omega, h3⟩ (by omega) h4)
  simp only [Pen.T]
  unfold b__law_tdraw
  simp only [↓dConst_ap, ↓dVar_ap, ↓dBin_ap, ↓dUn_ap, ↓dVal_ap, ↓dAnd_ap, ↓dOr_ap, ↓dNot_ap, ↓dIfE_ap, ↓dOfT_ap, ↓dBV_ap, ↓dAndV_ap, ↓dOrV_ap, ↓dNotV_ap, ↓dNil_ap, ↓dACons_ap, ↓dAConsP_ap, ↓dALend_ap, ↓dTup_ap, ↓dLst_ap, ↓dCB_ap, ↓dCall_ap, ↓dCallP_ap, ↓dNext_ap, ↓dSeq_ap, ↓dIf_ap, ↓dExpr_ap, ↓dRet_ap, ↓gN_ap, ↓gsNil_ap, ↓gsCons_ap, ↓gT_ap, ↓dSet_ap, ↓dAsg_ap, ↓iSeqD_ap, ↓iRange1_ap, ↓iRange2_ap, ↓iRange3_ap, ↓iEnumD_ap, ↓iZipD_ap, ↓dFor_ap, ↓dYes_ap, ↓oNone_ap, ↓dSlice_ap, ↓dMeth_ap, ↓dMeth0_ap, ↓dStore_ap, ↓dNewK_ap, ↓dNewT_ap, ↓dChain_ap, ↓dPar_ap, ↓dListR1_ap, ↓dNews_ap, ↓dKid_ap, ↓dKidK_ap, ↓dIxV_ap, ↓dDisp3_ap, ↓iDict_ap, ↓dListR2_ap, ↓dCallV_ap, ↓dRevL_ap, ↓dRdV_ap, ↓dCallB_ap, ↓dLenSet_ap, ↓dFld_ap, ↓dFPut_ap, ↓dFPutZ_ap, ↓dRetN_ap, ↓dMth_ap, ↓dMake_ap, ↓dAppNew_ap, ↓dLenLL_ap, ↓dNewLL_ap, ↓dLcQ_ap, ↓iEnumTD_ap, ↓dSortSet_ap, ↓dMaxDef_ap, ↓dCB1_ap, ↓setW_t, ↓setW_pk, ↓isB_bl, ↓isI_int, ↓fzP_t, ↓withD_nil, ↓withD_d, ↓addD_i, ↓addD_l, ↓addD_t, ↓subD_i, ↓mulD_i, ↓mulD_l, ↓mulD_t, ↓divD_i, ↓modD_i, ↓powD_i, ↓negD_i, ↓cmpI_i, ↓eqD_ap, ↓neD_ap, ↓inD_l, ↓inD_t, ↓inD_ki, ↓inD_kt, ↓getD'_some, ↓ixD_l, ↓ixD_t, ↓ixD_s, ↓ixD_ki, ↓ixD_kt, ↓lenD_l, ↓lenD_t, ↓lenD_s, ↓min2D_i, ↓max2D_i, ↓absD_i, ↓intD_i, ↓intD_b, ↓listD_l, ↓listD_t, ↓tupleD_l, ↓tupleD_t, ↓dictTD_l, ↓reprN_ap, ↓isinstD_ap, ↓sliceD_l, ↓sliceD_t, ↓oSome_ap', ↓appendN_ap, ↓extendN_ap, ↓popN_ap, ↓popAtN_ap, ↓reverseN_ap, ↓setL'_some, ↓storeN_l, ↓storeN_k, ↓storeN_t, ↓kidM_mixed, ↓kidM_turn, ↓kidM_wide, ↓kid_wide, ↓setKid_wide, ↓storeN_turn, ↓penM_eq, ↓fzW_tt, ↓fzW_pk, ↓rdW_t, ↓rdW_pk, ↓rdT_fz, ↓rdT_ls, ↓rdT_dk, ↓rdT_dt, ↓fzT_fz, ↓fzT_ls, ↓fzT_dk, ↓fzT_dt, atE_none, setE_none, atE_some, setE_some, lendE, backE, atI_0, atI_1, atI_2, atI_3, ixN_0, ixN_1, ixN_2, DL.keyOf, keysOf, T.ty, retW, List.map_cons, List.map_nil, List.cons_append, List.nil_append, List.replicate, List.getElem?_cons_zero, List.getElem?_cons_succ, List.set_cons_zero, List.set_cons_succ, List.length_cons, List.length_nil, Option.map_some, Option.map_none, List.take_succ_cons, List.take_zero, List.take_nil]
  refine ⟨fun G => ∃ (w : List Int), (∀ x ∈ w, 0 ≤ x) ∧ G = [some (penM m t (w.map D.int)), some (.fz (.int many)), none, none, none], ?_, ?_⟩
  · simp only [↓dConst_ap, ↓dVar_ap, ↓dBin_ap, ↓dUn_ap, ↓dVal_ap, ↓dAnd_ap, ↓dOr_ap, ↓dNot_ap, ↓dIfE_ap, ↓dOfT_ap, ↓dBV_ap, ↓dAndV_ap, ↓dOrV_ap, ↓dNotV_ap, ↓dNil_ap, ↓dACons_ap, ↓dAConsP_ap, ↓dALend_ap, ↓dTup_ap, ↓dLst_ap, ↓dCB_ap, ↓dCall_ap, ↓dCallP_ap, ↓dNext_ap, ↓dSeq_ap, ↓dIf_ap, ↓dExpr_ap, ↓dRet_ap, ↓gN_ap, ↓gsNil_ap, ↓gsCons_ap, ↓gT_ap, ↓dSet_ap, ↓dAsg_ap, ↓iSeqD_ap, ↓iRange1_ap, ↓iRange2_ap, ↓iRange3_ap, ↓iEnumD_ap, ↓iZipD_ap, ↓dFor_ap, ↓dYes_ap, ↓oNone_ap, ↓dSlice_ap, ↓dMeth_ap, ↓dMeth0_ap, ↓dStore_ap, ↓dNewK_ap, ↓dNewT_ap, ↓dChain_ap, ↓dPar_ap, ↓dListR1_ap, ↓dNews_ap, ↓dKid_ap, ↓dKidK_ap, ↓dIxV_ap, ↓dDisp3_ap, ↓iDict_ap, ↓dListR2_ap, ↓dCallV_ap, ↓dRevL_ap, ↓dRdV_ap, ↓dCallB_ap, ↓dLenSet_ap, ↓dFld_ap, ↓dFPut_ap, ↓dFPutZ_ap, ↓dRetN_ap, ↓dMth_ap, ↓dMake_ap, ↓dAppNew_ap, ↓dLenLL_ap, ↓dNewLL_ap, ↓dLcQ_ap, ↓iEnumTD_ap, ↓dSortSet_ap, ↓dMaxDef_ap, ↓dCB1_ap, ↓setW_t, ↓setW_pk, ↓isB_bl, ↓isI_int, ↓fzP_t, ↓withD_nil, ↓withD_d, ↓addD_i, ↓addD_l, ↓addD_t, ↓subD_i, ↓mulD_i, ↓mulD_l, ↓mulD_t, ↓divD_i, ↓modD_i, ↓powD_i, ↓negD_i, ↓cmpI_i, ↓eqD_ap, ↓neD_ap, ↓inD_l, ↓inD_t, ↓inD_ki, ↓inD_kt, ↓getD'_some, ↓ixD_l, ↓ixD_t, ↓ixD_s, ↓ixD_ki, ↓ixD_kt, ↓lenD_l, ↓lenD_t, ↓lenD_s, ↓min2D_i, ↓max2D_i, ↓absD_i, ↓intD_i, ↓intD_b, ↓listD_l, ↓listD_t, ↓tupleD_l, ↓tupleD_t, ↓dictTD_l, ↓reprN_ap, ↓isinstD_ap, ↓sliceD_l, ↓sliceD_t, ↓oSome_ap', ↓appendN_ap, ↓extendN_ap, ↓popN_ap, ↓popAtN_ap, ↓reverseN_ap, ↓setL'_some, ↓storeN_l, ↓storeN_k, ↓storeN_t, ↓kidM_mixed, ↓kidM_turn, ↓kidM_wide, ↓kid_wide, ↓setKid_wide, ↓storeN_turn, ↓penM_eq, ↓fzW_tt, ↓fzW_pk, ↓rdW_t, ↓rdW_pk, ↓rdT_fz, ↓rdT_ls, ↓rdT_dk, ↓rdT_dt, ↓fzT_fz, ↓fzT_ls, ↓fzT_dk, ↓fzT_dt, atE_none, setE_none, atE_some, setE_some, lendE, backE, atI_0, atI_1, atI_2, atI_3, ixN_0, ixN_1, ixN_2, DL.keyOf, keysOf, T.ty, retW, List.map_cons, List.map_nil, List.cons_append, List.nil_append, List.replicate, List.getElem?_cons_zero, List.getElem?_cons_succ, List.set_cons_zero, List.set_cons_succ, List.length_cons, List.length_nil, Option.map_some, Option.map_none, List.take_succ_cons, List.take_zero, List.take_nil, Bool.false_eq_true, if_false]
    cases w with
    | nil =>
      simp only [List.map_nil, List.length_nil]
      rw [if_neg (by decide)]
      exact ⟨[], (fun x m => nomatch m), rfl⟩
    | cons v r =>
      simp only [↓dConst_ap, ↓dVar_ap, ↓dBin_ap, ↓dUn_ap, ↓dVal_ap, ↓dAnd_ap, ↓dOr_ap, ↓dNot_ap, ↓dIfE_ap, ↓dOfT_ap, ↓dBV_ap, ↓dAndV_ap, ↓dOrV_ap, ↓dNotV_ap, ↓dNil_ap, ↓dACons_ap, ↓dAConsP_ap, ↓dALend_ap, ↓dTup_ap, ↓dLst_ap, ↓dCB_ap, ↓dCall_ap, ↓dCallP_ap, ↓dNext_ap, ↓dSeq_ap, ↓dIf_ap, ↓dExpr_ap, ↓dRet_ap, ↓gN_ap, ↓gsNil_ap, ↓gsCons_ap, ↓gT_ap, ↓dSet_ap, ↓dAsg_ap, ↓iSeqD_ap, ↓iRange1_ap, ↓iRange2_ap, ↓iRange3_ap, ↓iEnumD_ap, ↓iZipD_ap, ↓dFor_ap, ↓dYes_ap, ↓oNone_ap, ↓dSlice_ap, ↓dMeth_ap, ↓dMeth0_ap, ↓dStore_ap, ↓dNewK_ap, ↓dNewT_ap, ↓dChain_ap, ↓dPar_ap, ↓dListR1_ap, ↓dNews_ap, ↓dKid_ap, ↓dKidK_ap, ↓dIxV_ap, ↓dDisp3_ap, ↓iDict_ap, ↓dListR2_ap, ↓dCallV_ap, ↓dRevL_ap, ↓dRdV_ap, ↓dCallB_ap, ↓dLenSet_ap, ↓dFld_ap, ↓dFPut_ap, ↓dFPutZ_ap, ↓dRetN_ap, ↓dMth_ap, ↓dMake_ap, ↓dAppNew_ap, ↓dLenLL_ap, ↓dNewLL_ap, ↓dLcQ_ap, ↓iEnumTD_ap, ↓dSortSet_ap, ↓dMaxDef_ap, ↓dCB1_ap, ↓setW_t, ↓setW_pk, ↓isB_bl, ↓isI_int, ↓fzP_t, ↓withD_nil, ↓withD_d, ↓addD_i, ↓addD_l, ↓addD_t, ↓subD_i, ↓mulD_i, ↓mulD_l, ↓mulD_t, ↓divD_i, ↓modD_i, ↓powD_i, ↓negD_i, ↓cmpI_i, ↓eqD_ap, ↓neD_ap, ↓inD_l, ↓inD_t, ↓inD_ki, ↓inD_kt, ↓getD'_some, ↓ixD_l, ↓ixD_t, ↓ixD_s, ↓ixD_ki, ↓ixD_kt, ↓lenD_l, ↓lenD_t, ↓lenD_s, ↓min2D_i, ↓max2D_i, ↓absD_i, ↓intD_i, ↓intD_b, ↓listD_l, ↓listD_t, ↓tupleD_l, ↓tupleD_t, ↓dictTD_l, ↓reprN_ap, ↓isinstD_ap, ↓sliceD_l, ↓sliceD_t, ↓oSome_ap', ↓appendN_ap, ↓extendN_ap, ↓popN_ap, ↓popAtN_ap, ↓reverseN_ap, ↓setL'_some, ↓storeN_l, ↓storeN_k, ↓storeN_t, ↓kidM_mixed, ↓kidM_turn, ↓kidM_wide, ↓kid_wide, ↓setKid_wide, ↓storeN_turn, ↓penM_eq, ↓fzW_tt, ↓fzW_pk, ↓rdW_t, ↓rdW_pk, ↓rdT_fz, ↓rdT_ls, ↓rdT_dk, ↓rdT_dt, ↓fzT_fz, ↓fzT_ls, ↓fzT_dk, ↓fzT_dt, atE_none, setE_none, atE_some, setE_some, lendE, backE, atI_0, atI_1, atI_2, atI_3, ixN_0, ixN_1, ixN_2, DL.keyOf, keysOf, T.ty, retW, List.map_cons, List.map_nil, List.cons_append, List.nil_append, List.replicate, List.getElem?_cons_zero, List.getElem?_cons_succ, List.set_cons_zero, List.set_cons_succ, List.length_cons, List.length_nil, Option.map_some, Option.map_none, List.take_succ_cons, List.take_zero, List.take_nil]
      rw [if_pos (by simp)]
      split
      · refine ⟨⟨_, rfl, rfl⟩, .inr trivial, 0, .int v, rfl, rfl, by decide, r, fun x m => hw x (by simp [m]), rfl⟩
      · exact ⟨v :: r, hw, rfl⟩
  · rintro G ⟨w, hw, rfl⟩
    simp only [↓dConst_ap, ↓dVar_ap, ↓dBin_ap, ↓dUn_ap, ↓dVal_ap, ↓dAnd_ap, ↓dOr_ap, ↓dNot_ap, ↓dIfE_ap, ↓dOfT_ap, ↓dBV_ap, ↓dAndV_ap, ↓dOrV_ap, ↓dNotV_ap, ↓dNil_ap, ↓dACons_ap, ↓dAConsP_ap, ↓dALend_ap, ↓dTup_ap, ↓dLst_ap, ↓dCB_ap, ↓dCall_ap, ↓dCallP_ap, ↓dNext_ap, ↓dSeq_ap, ↓dIf_ap, ↓dExpr_ap, ↓dRet_ap, ↓gN_ap, ↓gsNil_ap, ↓gsCons_ap, ↓gT_ap, ↓dSet_ap, ↓dAsg_ap, ↓iSeqD_ap, ↓iRange1_ap, ↓iRange2_ap, ↓iRange3_ap, ↓iEnumD_ap, ↓iZipD_ap, ↓dFor_ap, ↓dYes_ap, ↓oNone_ap, ↓dSlice_ap, ↓dMeth_ap, ↓dMeth0_ap, ↓dStore_ap, ↓dNewK_ap, ↓dNewT_ap, ↓dChain_ap, ↓dPar_ap, ↓dListR1_ap, ↓dNews_ap, ↓dKid_ap, ↓dKidK_ap, ↓dIxV_ap, ↓dDisp3_ap, ↓iDict_ap, ↓dListR2_ap, ↓dCallV_ap, ↓dRevL_ap, ↓dRdV_ap, ↓dCallB_ap, ↓dLenSet_ap, ↓dFld_ap, ↓dFPut_ap, ↓dFPutZ_ap, ↓dRetN_ap, ↓dMth_ap, ↓dMake_ap, ↓dAppNew_ap, ↓dLenLL_ap, ↓dNewLL_ap, ↓dLcQ_ap, ↓iEnumTD_ap, ↓dSortSet_ap, ↓dMaxDef_ap, ↓dCB1_ap, ↓setW_t, ↓setW_pk, ↓isB_bl, ↓isI_int, ↓fzP_t, ↓withD_nil, ↓withD_d, ↓addD_i, ↓addD_l, ↓addD_t, ↓subD_i, ↓mulD_i, ↓mulD_l, ↓mulD_t, ↓divD_i, ↓modD_i, ↓powD_i, ↓negD_i, ↓cmpI_i, ↓eqD_ap, ↓neD_ap, ↓inD_l, ↓inD_t, ↓inD_ki, ↓inD_kt, ↓getD'_some, ↓ixD_l, ↓ixD_t, ↓ixD_s, ↓ixD_ki, ↓ixD_kt, ↓lenD_l, ↓lenD_t, ↓lenD_s, ↓min2D_i, ↓max2D_i, ↓absD_i, ↓intD_i, ↓intD_b, ↓listD_l, ↓listD_t, ↓tupleD_l, ↓tupleD_t, ↓dictTD_l, ↓reprN_ap, ↓isinstD_ap, ↓sliceD_l, ↓sliceD_t, ↓oSome_ap', ↓appendN_ap, ↓extendN_ap, ↓popN_ap, ↓popAtN_ap, ↓reverseN_ap, ↓setL'_some, ↓storeN_l, ↓storeN_k, ↓storeN_t, ↓kidM_mixed, ↓kidM_turn, ↓kidM_wide, ↓kid_wide, ↓setKid_wide, ↓storeN_turn, ↓penM_eq, ↓fzW_tt, ↓fzW_pk, ↓rdW_t, ↓rdW_pk, ↓rdT_fz, ↓rdT_ls, ↓rdT_dk, ↓rdT_dt, ↓fzT_fz, ↓fzT_ls, ↓fzT_dk, ↓fzT_dt, atE_none, setE_none, atE_some, setE_some, lendE, backE, atI_0, atI_1, atI_2, atI_3, ixN_0, ixN_1, ixN_2, DL.keyOf, keysOf, T.ty, retW, List.map_cons, List.map_nil, List.cons_append, List.nil_append, List.replicate, List.getElem?_cons_zero, List.getElem?_cons_succ, List.set_cons_zero, List.set_cons_succ, List.length_cons, List.length_nil, Option.map_some, Option.map_none, List.take_succ_cons, List.take_zero, List.take_nil]
    cases w with
    | nil =>
      simp only [List.map_nil, List.length_nil]
      rw [if_neg (by decide)]
      have h1 := mod_in (a := m + 7919 * (t + 1) * (t + 1)) (b := 2147483629) (by decide)
      generalize (m + 7919 * (t + 1) * (t + 1)) % 2147483629 = one at h1 ⊢
      have h2 := mod_in (a := one * one + 40692 * (t + 1) + 3) (b := 998244353) (by decide)
      generalize (one * one + 40692 * (t + 1) + 3) % 998244353 = two at h2 ⊢
      have h3 := mod_in (a := (two * two + one) % 2147483587 / 16) (b := many) hy
      obtain ⟨x, hx⟩ := Int.eq_ofNat_of_zero_le h3.1
      rw [hx] at h3 ⊢
      have p1 : (7919 * (t + 1)).natAbs < 2 ^ 5000 := Nat.lt_of_lt_of_le (show (7919 * (t + 1)).natAbs < 2 ^ 75 by omega) (Nat.pow_le_pow_right (by decide) (by decide))
      have p2 : (t + 1).natAbs < 2 ^ 5000 := Nat.lt_of_lt_of_le (show (t + 1).natAbs < 2 ^ 64 by omega) (Nat.pow_le_pow_right (by decide) (by decide))
      exact ⟨.inl trivial, mul_l (by decide), .inr ⟨p1, p2⟩, by decide, by decide, mul_l (by omega), mul_l (by decide), by decide, by decide, mul_l (by omega), by decide, ⟨by decide, lt_big (by decide)⟩, hy, q (t + 1) [] x (by omega) (by omega) (fun _ m => nomatch m) h3.2⟩
    | cons v r =>
      simp only [↓dConst_ap, ↓dVar_ap, ↓dBin_ap, ↓dUn_ap, ↓dVal_ap, ↓dAnd_ap, ↓dOr_ap, ↓dNot_ap, ↓dIfE_ap, ↓dOfT_ap, ↓dBV_ap, ↓dAndV_ap, ↓dOrV_ap, ↓dNotV_ap, ↓dNil_ap, ↓dACons_ap, ↓dAConsP_ap, ↓dALend_ap, ↓dTup_ap, ↓dLst_ap, ↓dCB_ap, ↓dCall_ap, ↓dCallP_ap, ↓dNext_ap, ↓dSeq_ap, ↓dIf_ap, ↓dExpr_ap, ↓dRet_ap, ↓gN_ap, ↓gsNil_ap, ↓gsCons_ap, ↓gT_ap, ↓dSet_ap, ↓dAsg_ap, ↓iSeqD_ap, ↓iRange1_ap, ↓iRange2_ap, ↓iRange3_ap, ↓iEnumD_ap, ↓iZipD_ap, ↓dFor_ap, ↓dYes_ap, ↓oNone_ap, ↓dSlice_ap, ↓dMeth_ap, ↓dMeth0_ap, ↓dStore_ap, ↓dNewK_ap, ↓dNewT_ap, ↓dChain_ap, ↓dPar_ap, ↓dListR1_ap, ↓dNews_ap, ↓dKid_ap, ↓dKidK_ap, ↓dIxV_ap, ↓dDisp3_ap, ↓iDict_ap, ↓dListR2_ap, ↓dCallV_ap, ↓dRevL_ap, ↓dRdV_ap, ↓dCallB_ap, ↓dLenSet_ap, ↓dFld_ap, ↓dFPut_ap, ↓dFPutZ_ap, ↓dRetN_ap, ↓dMth_ap, ↓dMake_ap, ↓dAppNew_ap, ↓dLenLL_ap, ↓dNewLL_ap, ↓dLcQ_ap, ↓iEnumTD_ap, ↓dSortSet_ap, ↓dMaxDef_ap, ↓dCB1_ap, ↓setW_t, ↓setW_pk, ↓isB_bl, ↓isI_int, ↓fzP_t, ↓withD_nil, ↓withD_d, ↓addD_i, ↓addD_l, ↓addD_t, ↓subD_i, ↓mulD_i, ↓mulD_l, ↓mulD_t, ↓divD_i, ↓modD_i, ↓powD_i, ↓negD_i, ↓cmpI_i, ↓eqD_ap, ↓neD_ap, ↓inD_l, ↓inD_t, ↓inD_ki, ↓inD_kt, ↓getD'_some, ↓ixD_l, ↓ixD_t, ↓ixD_s, ↓ixD_ki, ↓ixD_kt, ↓lenD_l, ↓lenD_t, ↓lenD_s, ↓min2D_i, ↓max2D_i, ↓absD_i, ↓intD_i, ↓intD_b, ↓listD_l, ↓listD_t, ↓tupleD_l, ↓tupleD_t, ↓dictTD_l, ↓reprN_ap, ↓isinstD_ap, ↓sliceD_l, ↓sliceD_t, ↓oSome_ap', ↓appendN_ap, ↓extendN_ap, ↓popN_ap, ↓popAtN_ap, ↓reverseN_ap, ↓setL'_some, ↓storeN_l, ↓storeN_k, ↓storeN_t, ↓kidM_mixed, ↓kidM_turn, ↓kidM_wide, ↓kid_wide, ↓setKid_wide, ↓storeN_turn, ↓penM_eq, ↓fzW_tt, ↓fzW_pk, ↓rdW_t, ↓rdW_pk, ↓rdT_fz, ↓rdT_ls, ↓rdT_dk, ↓rdT_dt, ↓fzT_fz, ↓fzT_ls, ↓fzT_dk, ↓fzT_dt, atE_none, setE_none, atE_some, setE_some, lendE, backE, atI_0, atI_1, atI_2, atI_3, ixN_0, ixN_1, ixN_2, DL.keyOf, keysOf, T.ty, retW, List.map_cons, List.map_nil, List.cons_append, List.nil_append, List.replicate, List.getElem?_cons_zero, List.getElem?_cons_succ, List.set_cons_zero, List.set_cons_succ, List.length_cons, List.length_nil, Option.map_some, Option.map_none, List.take_succ_cons, List.take_zero, List.take_nil]
      rw [if_pos (by simp)]
      have h3 := mod_in (a := v) (b := many) hy
      have hv : 0 ≤ v := hw v (by simp)
      obtain ⟨x, hx⟩ := Int.eq_ofNat_of_zero_le h3.1
      rw [hx] at h3 ⊢
      refine ⟨hy, by decide, ⟨hy, lt_big hy2⟩, .inr trivial, ?_⟩
      exact q t (v / many :: r) x ht (by omega) (fun y m => by
        rcases List.mem_cons.mp m with e | m
        · rw [e]; exact Int.ediv_nonneg hv (by omega)
        · exact hw y (by simp [m])) h3.2

theorem ok__law_tdraw {f : Addr} {fd : FuncData} (Fd : C8.Def K mg "_law_tdraw" s__law_tdraw f fd) (bd : Binds K fd ["pen", "many"] []) (T_len : mg "len" = none) : Fn P w K mg base 1 "_law_tdraw" 2 1 F__law_tdraw := by
  refine fn_mk (body := b__law_tdraw) Fd bd sc__law_tdraw rfl (by decide) (fun cdv A outer s H E hgd hr => ?_) law__law_tdraw
  have nd := sc__law_tdraw.nd
  have hu64 := hr.units
  have hu65 := hu65 hr
  have hu1 := hu1 hr
  have hu2 := hu2 hr
  have hu0 := hr.units0
  exact (dss_cons (ds_cut (ds_if (DW.dt (dw_and (dt_cmp gt_ok (nomark _) (de_cb1 len_ok (by rfl) T_len (by decide +kernel) (de_kidK hu1 (de_var (pv 0)) (fun _ _ => rfl))) de_int) (dw_and1 (dt_cmp lt_ok (nomark _) (de_ix hu1 (de_kidK hu1 (de_var (pv 0)) (fun _ _ => rfl)) de_int (fun _ _ => rfl)) (de_var (pv 1)))))) (dss_one (ds_expr (de_meth (by decide) PySem.F.plainAttrs_list PySem.F.slot_list_pop PySem.F.type_list_pop popAt_ok (de_kidK hu1 (de_var (pv 0)) (fun _ _ => rfl)) (da_consP de_int da_nil)))) dss_nil))
    (dss_cons (ds_if (dt_cmp gt_ok (nomark _) (de_cb1 len_ok (by rfl) T_len (by decide +kernel) (de_kidK hu1 (de_var (pv 0)) (fun _ _ => rfl))) de_int) (dss_cons (ds_set (i := 4) nd rfl (.inl rfl) (de_bin mod_ok (de_ix hu1 (de_kidK hu1 (de_var (pv 0)) (fun _ _ => rfl)) de_int (fun _ _ => rfl)) (de_var (pv 1))) (by decide))
    (dss_cons (ds_store hu1 (de_bin div_ok (de_ix hu1 (de_kidK hu1 (de_var (pv 0)) (fun _ _ => rfl)) de_int (fun _ _ => rfl)) (de_var (pv 1))) (de_kidK hu1 (de_var (pv 0)) (fun _ _ => rfl)) de_int)
    (dss_one (ds_ret (de_var (pv 4)))))) dss_nil)
    (dss_cons (ds_store hu1 (de_bin add_ok (de_kidK hu1 (de_var (pv 0)) (fun _ _ => rfl)) de_int) (de_var (pv 0)) de_str)
    (dss_cons (ds_set (i := 2) nd rfl (.inl rfl) (de_bin mod_ok (de_bin add_ok (de_kidK hu1 (de_var (pv 0)) (fun _ _ => rfl)) (de_bin mul_ok (de_bin mul_ok de_int (de_kidK hu1 (de_var (pv 0)) (fun _ _ => rfl))) (de_kidK hu1 (de_var (pv 0)) (fun _ _ => rfl)))) de_int) (by decide))
    (dss_cons (ds_set (i := 3) nd rfl (.inl rfl) (de_bin mod_ok (de_bin add_ok (de_bin add_ok (de_bin mul_ok (de_var (pv 2)) (de_var (pv 2))) (de_bin mul_ok de_int (de_kidK hu1 (de_var (pv 0)) (fun _ _ => rfl)))) de_int) de_int) (by decide))
    (dss_one (ds_ret (de_bin mod_ok (de_bin div_ok (de_bin mod_ok (de_bin add_ok (de_bin mul_ok (de_var (pv 3)) (de_var (pv 3))) (de_var (pv 2))) de_int) de_int) (de_var (pv 1))))))))))

abbrev s__law_tsame : Stmt := topS 9
theorem sc__law_tsame : FnScope ["found", "due", "one", "other"] ["found", "due"] (C8.fnScope s__law_tsame) := C8.fnScope_by (by decide +kernel)

def Fw__law_tsame : Nat → FS
  | 0 => fun _ _ => False
  | k + 1 => fun ts R => ∃ x : D, ts = [.fz x, .fz x] ∧ plainD k x ∧ R [] (.fz (.bl true))
theorem no__law_tsame : ∀ ts R, Fw__law_tsame 0 ts R → False := fun _ _ h => h
def F__law_tsame : FS := fun ts R => ∃ x y : D, ts = [.fz x, .fz y] ∧ sameP x y ∧ R [] (.fz (.bl (sameT x y)))

def b__law_tsame (dp : Nat) : DTS := (dSeq (dIf (dVal (dBin (isNoneD false) true (dVar 1) (dConst (.fz .non)))) (dRet (dBin (isNoneD false) true (dVar 0) (dConst (.fz .non)))) dNext)
    (dSeq (dIf (dVal (dCB1 (fun y R => isinstD [y, .opq (.ty "bool")] R) (dVar 1))) (dRet (dAndV (dCB1 (fun y R => isinstD [y, .opq (.ty "bool")] R) (dVar 0)) (dBin eqD true (dVar 0) (dVar 1)))) dNext)
    (dSeq (dIf (dVal (dCB1 (fun y R => isinstD [y, .opq (.ty "int")] R) (dVar 1))) (dRet (dAndV (dCB1 (fun y R => isinstD [y, .opq (.ty "int")] R) (dVar 0)) (dAndV (dNotV (dCB1 (fun y R => isinstD [y, .opq (.ty "bool")] R) (dVar 0))) (dBin eqD true (dVar 0) (dVar 1))))) dNext)
    (dSeq (dIf (dVal (dCB1 (fun y R => isinstD [y, .opq (.ty "str")] R) (dVar 1))) (dRet (dAndV (dCB1 (fun y R => isinstD [y, .opq (.ty "str")] R) (dVar 0)) (dBin eqD true (dVar 0) (dVar 1)))) dNext)
    (dSeq (dIf (dOr (dVal (dBin neD true (dCB1 (fun y R => isinstD [y, .opq (.ty "tuple")] R) (dVar 1)) (dCB1 (fun y R => isinstD [y, .opq (.ty "tuple")] R) (dVar 0)))) (dVal (dBin neD true (dCB1 (fun y R => isinstD [y, .opq (.ty "list")] R) (dVar 1)) (dCB1 (fun y R => isinstD [y, .opq (.ty "list")] R) (dVar 0))))) (dRet (dConst (.fz (.bl false)))) dNext)
    (dRet (dAndV (dBin eqD true (dCB1 (fun y R => lenD [y] R) (dVar 0)) (dCB1 (fun y R => lenD [y] R) (dVar 1))) (dCB1 (fun y R => allD [y] R) (dLc (iZipD (dACons (dVar 0) (dACons (dVar 1) dNil))) (gT 2 (gsCons (gN 2) (gsCons (gN 3) gsNil))) dYes (dCall 2 (Fw__law_tsame dp) (dACons (dVar 2) (dACons (dVar 3) dNil))) [2, 3])))))))))

theorem same_loop (k : Nat) (l : List D) (t : D) {R : En → T → Prop} (hl : l.length ≤ 5000) (hx : ∀ d ∈ l, plainD k d) (q : R [] (.fz (.bl true))) :
    compW (gT 2 (gsCons (gN 2) (gsCons (gN 3) gsNil))) dYes (dCall 2 (Fw__law_tsame (k + 1)) (dACons (dVar 2) (dACons (dVar 3) dNil))) [2, 3]
      (fun G2 ds => rdW (unwipe [some (T.fz t), some (T.fz t), none, none] (wipeE G2 [2, 3]) [2, 3]) (.t (.ls ds)) fun x => allD [x] fun t => R [] t) (zipD l l) [] [some (T.fz t), some (T.fz t), none, none] := by
  rw [zipD_same]
  refine compW_pure _ l (fun _ => true) (fun _ => .bl true) (fun G => ∃ a b, G = [some (.fz t), some (.fz t), a, b]) ⟨_, _, rfl⟩ (by omega) ?_ ?_
  · rintro G ⟨a, b, rfl⟩
    rw [List.filter_eq_self.mpr fun _ _ => rfl]
    simp only [↓dConst_ap, ↓dVar_ap, ↓dBin_ap, ↓dUn_ap, ↓dVal_ap, ↓dAnd_ap, ↓dOr_ap, ↓dNot_ap, ↓dIfE_ap, ↓dOfT_ap, ↓dBV_ap, ↓dAndV_ap, ↓dOrV_ap, ↓dNotV_ap, ↓dNil_ap, ↓dACons_ap, ↓dAConsP_ap, ↓dALend_ap, ↓dTup_ap, ↓dLst_ap, ↓dCB_ap, ↓dCall_ap, ↓dCallP_ap, ↓dNext_ap, ↓dSeq_ap, ↓dIf_ap, ↓dExpr_ap, ↓dRet_ap, ↓gN_ap, ↓gsNil_ap, ↓gsCons_ap, ↓gT_ap, ↓dSet_ap, ↓dAsg_ap, ↓iSeqD_ap, ↓iRange1_ap, ↓iRange2_ap, ↓iRange3_ap, ↓iEnumD_ap, ↓iZipD_ap, ↓dFor_ap, ↓dYes_ap, ↓oNone_ap, ↓dSlice_ap, ↓dMeth_ap, ↓dMeth0_ap, ↓dStore_ap, ↓dNewK_ap, ↓dNewT_ap, ↓dChain_ap, ↓dPar_ap, ↓dListR1_ap, ↓dNews_ap, ↓dKid_ap, ↓dKidK_ap, ↓dIxV_ap, ↓dDisp3_ap, ↓iDict_ap, ↓dListR2_ap, ↓dCallV_ap, ↓dRevL_ap, ↓dRdV_ap, ↓dCallB_ap, ↓dLenSet_ap, ↓dFld_ap, ↓dFPut_ap, ↓dFPutZ_ap, ↓dRetN_ap, ↓dMth_ap, ↓dMake_ap, ↓dAppNew_ap, ↓dLenLL_ap, ↓dNewLL_ap, ↓dLcQ_ap, ↓iEnumTD_ap, ↓dSortSet_ap, ↓dMaxDef_ap, ↓dCB1_ap, ↓setW_t, ↓setW_pk, ↓isB_bl, ↓isI_int, ↓fzP_t, ↓withD_nil, ↓withD_d, ↓addD_i, ↓addD_l, ↓addD_t, ↓subD_i, ↓mulD_i, ↓mulD_l, ↓mulD_t, ↓divD_i, ↓modD_i, ↓powD_i, ↓negD_i, ↓cmpI_i, ↓eqD_ap, ↓neD_ap, ↓inD_l, ↓inD_t, ↓inD_ki, ↓inD_kt, ↓getD'_some, ↓ixD_l, ↓ixD_t, ↓ixD_s, ↓ixD_ki, ↓ixD_kt, ↓lenD_l, ↓lenD_t, ↓lenD_s, ↓min2D_i, ↓max2D_i, ↓absD_i, ↓intD_i, ↓intD_b, ↓listD_l, ↓listD_t, ↓tupleD_l, ↓tupleD_t, ↓dictTD_l, ↓reprN_ap, ↓isinstD_ap, ↓sliceD_l, ↓sliceD_t, ↓oSome_ap', ↓appendN_ap, ↓extendN_ap, ↓popN_ap, ↓popAtN_ap, ↓reverseN_ap, ↓setL'_some, ↓storeN_l, ↓storeN_k, ↓storeN_t, ↓kidM_mixed, ↓kidM_turn, ↓kidM_wide, ↓kid_wide, ↓setKid_wide, ↓storeN_turn, ↓penM_eq, ↓fzW_tt, ↓fzW_pk, ↓rdW_t, ↓rdW_pk, ↓rdT_fz, ↓rdT_ls, ↓rdT_dk, ↓rdT_dt, ↓fzT_fz, ↓fzT_ls, ↓fzT_dk, ↓fzT_dt, atE_none, setE_none, atE_some, setE_some, lendE, backE, atI_0, atI_1, atI_2, atI_3, ixN_0, ixN_1, ixN_2, DL.keyOf, keysOf, T.ty, retW, List.map_cons, List.map_nil, List.cons_append, List.nil_append, List.replicate, List.getElem?_cons_zero, List.getElem?_cons_succ, List.set_cons_zero, List.set_cons_succ, List.length_cons, List.length_nil, Option.map_some, Option.map_none, List.take_succ_cons, List.take_zero, List.take_nil, allD]
    refine ⟨l.map fun _ => true, by rw [List.map_map]; rfl, ?_⟩
    have e : (l.map fun _ => true).all id = true := by simp
    rw [e]; exact q
  · rintro x G C acc m ⟨a, b, rfl⟩ c1 c2
    simp only [↓dConst_ap, ↓dVar_ap, ↓dBin_ap, ↓dUn_ap, ↓dVal_ap, ↓dAnd_ap, ↓dOr_ap, ↓dNot_ap, ↓dIfE_ap, ↓dOfT_ap, ↓dBV_ap, ↓dAndV_ap, ↓dOrV_ap, ↓dNotV_ap, ↓dNil_ap, ↓dACons_ap, ↓dAConsP_ap, ↓dALend_ap, ↓dTup_ap, ↓dLst_ap, ↓dCB_ap, ↓dCall_ap, ↓dCallP_ap, ↓dNext_ap, ↓dSeq_ap, ↓dIf_ap, ↓dExpr_ap, ↓dRet_ap, ↓gN_ap, ↓gsNil_ap, ↓gsCons_ap, ↓gT_ap, ↓dSet_ap, ↓dAsg_ap, ↓iSeqD_ap, ↓iRange1_ap, ↓iRange2_ap, ↓iRange3_ap, ↓iEnumD_ap, ↓iZipD_ap, ↓dFor_ap, ↓dYes_ap, ↓oNone_ap, ↓dSlice_ap, ↓dMeth_ap, ↓dMeth0_ap, ↓dStore_ap, ↓dNewK_ap, ↓dNewT_ap, ↓dChain_ap, ↓dPar_ap, ↓dListR1_ap, ↓dNews_ap, ↓dKid_ap, ↓dKidK_ap, ↓dIxV_ap, ↓dDisp3_ap, ↓iDict_ap, ↓dListR2_ap, ↓dCallV_ap, ↓dRevL_ap, ↓dRdV_ap, ↓dCallB_ap, ↓dLenSet_ap, ↓dFld_ap, ↓dFPut_ap, ↓dFPutZ_ap, ↓dRetN_ap, ↓dMth_ap, ↓dMake_ap, ↓dAppNew_ap, ↓dLenLL_ap, ↓dNewLL_ap, ↓dLcQ_ap, ↓iEnumTD_ap, ↓dSortSet_ap, ↓dMaxDef_ap, ↓dCB1_ap, ↓setW_t, ↓setW_pk, ↓isB_bl, ↓isI_int, ↓fzP_t, ↓withD_nil, ↓withD_d, ↓addD_i, ↓addD_l, ↓addD_t, ↓subD_i, ↓mulD_i, ↓mulD_l, ↓mulD_t, ↓divD_i, ↓modD_i, ↓powD_i, ↓negD_i, ↓cmpI_i, ↓eqD_ap, ↓neD_ap, ↓inD_l, ↓inD_t, ↓inD_ki, ↓inD_kt, ↓getD'_some, ↓ixD_l, ↓ixD_t, ↓ixD_s, ↓ixD_ki, ↓ixD_kt, ↓lenD_l, ↓lenD_t, ↓lenD_s, ↓min2D_i, ↓max2D_i, ↓absD_i, ↓intD_i, ↓intD_b, ↓listD_l, ↓listD_t, ↓tupleD_l, ↓tupleD_t, ↓dictTD_l, ↓reprN_ap, ↓isinstD_ap, ↓sliceD_l, ↓sliceD_t, ↓oSome_ap', ↓appendN_ap, ↓extendN_ap, ↓popN_ap, ↓popAtN_ap, ↓reverseN_ap, ↓setL'_some, ↓storeN_l, ↓storeN_k, ↓storeN_t, ↓kidM_mixed, ↓kidM_turn, ↓kidM_wide, ↓kid_wide, ↓setKid_wide, ↓storeN_turn, ↓penM_eq, ↓fzW_tt, ↓fzW_pk, ↓rdW_t, ↓rdW_pk, ↓rdT_fz, ↓rdT_ls, ↓rdT_dk, ↓rdT_dt, ↓fzT_fz, ↓fzT_ls, ↓fzT_dk, ↓fzT_dt, atE_none, setE_none, atE_some, setE_some, lendE, backE, atI_0, atI_1, atI_2, atI_3, ixN_0, ixN_1, ixN_2, DL.keyOf, keysOf, T.ty, retW, List.map_cons, List.map_nil, List.cons_append, List.nil_append, List.replicate, List.getElem?_cons_zero, List.getElem?_cons_succ, List.set_cons_zero, List.set_cons_succ, List.length_cons, List.length_nil, Option.map_some, Option.map_none, List.take_succ_cons, List.take_zero, List.take_nil, wipeE, if_true]
    repeat (with_reducible refine And.intro ?_ ?_; · first | exact True.intro | omega | exact Or.inr True.intro | exact Or.inl True.intro | exact ⟨_, rfl, rfl⟩ | exact ⟨_, rfl⟩ | exact shp_int _ | (with_reducible decide))
    refine ⟨x, rfl, hx x m, ?_⟩
    simp only [↓dConst_ap, ↓dVar_ap, ↓dBin_ap, ↓dUn_ap, ↓dVal_ap, ↓dAnd_ap, ↓dOr_ap, ↓dNot_ap, ↓dIfE_ap, ↓dOfT_ap, ↓dBV_ap, ↓dAndV_ap, ↓dOrV_ap, ↓dNotV_ap, ↓dNil_ap, ↓dACons_ap, ↓dAConsP_ap, ↓dALend_ap, ↓dTup_ap, ↓dLst_ap, ↓dCB_ap, ↓dCall_ap, ↓dCallP_ap, ↓dNext_ap, ↓dSeq_ap, ↓dIf_ap, ↓dExpr_ap, ↓dRet_ap, ↓gN_ap, ↓gsNil_ap, ↓gsCons_ap, ↓gT_ap, ↓dSet_ap, ↓dAsg_ap, ↓iSeqD_ap, ↓iRange1_ap, ↓iRange2_ap, ↓iRange3_ap, ↓iEnumD_ap, ↓iZipD_ap, ↓dFor_ap, ↓dYes_ap, ↓oNone_ap, ↓dSlice_ap, ↓dMeth_ap, ↓dMeth0_ap, ↓dStore_ap, ↓dNewK_ap, ↓dNewT_ap, ↓dChain_ap, ↓dPar_ap, ↓dListR1_ap, ↓dNews_ap, ↓dKid_ap, ↓dKidK_ap, ↓dIxV_ap, ↓dDisp3_ap, ↓iDict_ap, ↓dListR2_ap, ↓dCallV_ap, ↓dRevL_ap, ↓dRdV_ap, ↓dCallB_ap, ↓dLenSet_ap, ↓dFld_ap, ↓dFPut_ap, ↓dFPutZ_ap, ↓dRetN_ap, ↓dMth_ap, ↓dMake_ap, ↓dAppNew_ap, ↓dLenLL_ap, ↓dNewLL_ap, ↓dLcQ_ap, ↓iEnumTD_ap, ↓dSortSet_ap, ↓dMaxDef_ap, ↓dCB1_ap, ↓setW_t, ↓setW_pk, ↓isB_bl, ↓isI_int, ↓fzP_t, ↓withD_nil, ↓withD_d, ↓addD_i, ↓addD_l, ↓addD_t, ↓subD_i, ↓mulD_i, ↓mulD_l, ↓mulD_t, ↓divD_i, ↓modD_i, ↓powD_i, ↓negD_i, ↓cmpI_i, ↓eqD_ap, ↓neD_ap, ↓inD_l, ↓inD_t, ↓inD_ki, ↓inD_kt, ↓getD'_some, ↓ixD_l, ↓ixD_t, ↓ixD_s, ↓ixD_ki, ↓ixD_kt, ↓lenD_l, ↓lenD_t, ↓lenD_s, ↓min2D_i, ↓max2D_i, ↓absD_i, ↓intD_i, ↓intD_b, ↓listD_l, ↓listD_t, ↓tupleD_l, ↓tupleD_t, ↓dictTD_l, ↓reprN_ap, ↓isinstD_ap, ↓sliceD_l, ↓sliceD_t, ↓oSome_ap', ↓appendN_ap, ↓extendN_ap, ↓popN_ap, ↓popAtN_ap, ↓reverseN_ap, ↓setL'_some, ↓storeN_l, ↓storeN_k, ↓storeN_t, ↓kidM_mixed, ↓kidM_turn, ↓kidM_wide, ↓kid_wide, ↓setKid_wide, ↓storeN_turn, ↓penM_eq, ↓fzW_tt, ↓fzW_pk, ↓rdW_t, ↓rdW_pk, ↓rdT_fz, ↓rdT_ls, ↓rdT_dk, ↓rdT_dt, ↓fzT_fz, ↓fzT_ls, ↓fzT_dk, ↓fzT_dt, atE_none, setE_none, atE_some, setE_some, lendE, backE, atI_0, atI_1, atI_2, atI_3, ixN_0, ixN_1, ixN_2, DL.keyOf, keysOf, T.ty, retW, List.map_cons, List.map_nil, List.cons_append, List.nil_append, List.replicate, List.getElem?_cons_zero, List.getElem?_cons_succ, List.set_cons_zero, List.set_cons_succ, List.length_cons, List.length_nil, Option.map_some, Option.map_none, List.take_succ_cons, List.take_zero, List.take_nil]
    exact c1 _ ⟨_, _, rfl⟩ rfl
theorem sim__law_tsame (k : Nat) : ∀ ts R, ts.length = 2 → Fw__law_tsame (k + 1) ts R → b__law_tsame k ⟨fun G => R (G.take 0) (.fz .non), retW 0 R⟩ (ts.map some ++ List.replicate ((["found", "due", "one", "other"] : List Str).length - 2) none) := by
  rintro ts R - ⟨x, rfl, hx, q⟩
  unfold b__law_tsame
  simp only [↓dConst_ap, ↓dVar_ap, ↓dBin_ap, ↓dUn_ap, ↓dVal_ap, ↓dAnd_ap, ↓dOr_ap, ↓dNot_ap, ↓dIfE_ap, ↓dOfT_ap, ↓dBV_ap, ↓dAndV_ap, ↓dOrV_ap, ↓dNotV_ap, ↓dNil_ap, ↓dACons_ap, ↓dAConsP_ap, ↓dALend_ap, ↓dTup_ap, ↓dLst_ap, ↓dCB_ap, ↓dCall_ap, ↓dCallP_ap, ↓dNext_ap, ↓dSeq_ap, ↓dIf_ap, ↓dExpr_ap, ↓dRet_ap, ↓gN_ap, ↓gsNil_ap, ↓gsCons_ap, ↓gT_ap, ↓dSet_ap, ↓dAsg_ap, ↓iSeqD_ap, ↓iRange1_ap, ↓iRange2_ap, ↓iRange3_ap, ↓iEnumD_ap, ↓iZipD_ap, ↓dFor_ap, ↓dYes_ap, ↓oNone_ap, ↓dSlice_ap, ↓dMeth_ap, ↓dMeth0_ap, ↓dStore_ap, ↓dNewK_ap, ↓dNewT_ap, ↓dChain_ap, ↓dPar_ap, ↓dListR1_ap, ↓dNews_ap, ↓dKid_ap, ↓dKidK_ap, ↓dIxV_ap, ↓dDisp3_ap, ↓iDict_ap, ↓dListR2_ap, ↓dCallV_ap, ↓dRevL_ap, ↓dRdV_ap, ↓dCallB_ap, ↓dLenSet_ap, ↓dFld_ap, ↓dFPut_ap, ↓dFPutZ_ap, ↓dRetN_ap, ↓dMth_ap, ↓dMake_ap, ↓dAppNew_ap, ↓dLenLL_ap, ↓dNewLL_ap, ↓dLcQ_ap, ↓iEnumTD_ap, ↓dSortSet_ap, ↓dMaxDef_ap, ↓dCB1_ap, ↓setW_t, ↓setW_pk, ↓isB_bl, ↓isI_int, ↓fzP_t, ↓withD_nil, ↓withD_d, ↓addD_i, ↓addD_l, ↓addD_t, ↓subD_i, ↓mulD_i, ↓mulD_l, ↓mulD_t, ↓divD_i, ↓modD_i, ↓powD_i, ↓negD_i, ↓cmpI_i, ↓eqD_ap, ↓neD_ap, ↓inD_l, ↓inD_t, ↓inD_ki, ↓inD_kt, ↓getD'_some, ↓ixD_l, ↓ixD_t, ↓ixD_s, ↓ixD_ki, ↓ixD_kt, ↓lenD_l, ↓lenD_t, ↓lenD_s, ↓min2D_i, ↓max2D_i, ↓absD_i, ↓intD_i, ↓intD_b, ↓listD_l, ↓listD_t, ↓tupleD_l, ↓tupleD_t, ↓dictTD_l, ↓reprN_ap, ↓isinstD_ap, ↓sliceD_l, ↓sliceD_t, ↓oSome_ap', ↓appendN_ap, ↓extendN_ap, ↓popN_ap, ↓popAtN_ap, ↓reverseN_ap, ↓setL'_some, ↓storeN_l, ↓storeN_k, ↓storeN_t, ↓kidM_mixed, ↓kidM_turn, ↓kidM_wide, ↓kid_wide, ↓setKid_wide, ↓storeN_turn, ↓penM_eq, ↓fzW_tt, ↓fzW_pk, ↓rdW_t, ↓rdW_pk, ↓rdT_fz, ↓rdT_ls, ↓rdT_dk, ↓rdT_dt, ↓fzT_fz, ↓fzT_ls, ↓fzT_dk, ↓fzT_dt, atE_none, setE_none, atE_some, setE_some, lendE, backE, atI_0, atI_1, atI_2, atI_3, ixN_0, ixN_1, ixN_2, DL.keyOf, keysOf, T.ty, retW, List.map_cons, List.map_nil, List.cons_append, List.nil_append, List.replicate, List.getElem?_cons_zero, List.getElem?_cons_succ, List.set_cons_zero, List.set_cons_succ, List.length_cons, List.length_nil, Option.map_some, Option.map_none, List.take_succ_cons, List.take_zero, List.take_nil]
  cases x with
  | non => simp only [↓dConst_ap, ↓dVar_ap, ↓dBin_ap, ↓dUn_ap, ↓dVal_ap, ↓dAnd_ap, ↓dOr_ap, ↓dNot_ap, ↓dIfE_ap, ↓dOfT_ap, ↓dBV_ap, ↓dAndV_ap, ↓dOrV_ap, ↓dNotV_ap, ↓dNil_ap, ↓dACons_ap, ↓dAConsP_ap, ↓dALend_ap, ↓dTup_ap, ↓dLst_ap, ↓dCB_ap, ↓dCall_ap, ↓dCallP_ap, ↓dNext_ap, ↓dSeq_ap, ↓dIf_ap, ↓dExpr_ap, ↓dRet_ap, ↓gN_ap, ↓gsNil_ap, ↓gsCons_ap, ↓gT_ap, ↓dSet_ap, ↓dAsg_ap, ↓iSeqD_ap, ↓iRange1_ap, ↓iRange2_ap, ↓iRange3_ap, ↓iEnumD_ap, ↓iZipD_ap, ↓dFor_ap, ↓dYes_ap, ↓oNone_ap, ↓dSlice_ap, ↓dMeth_ap, ↓dMeth0_ap, ↓dStore_ap, ↓dNewK_ap, ↓dNewT_ap, ↓dChain_ap, ↓dPar_ap, ↓dListR1_ap, ↓dNews_ap, ↓dKid_ap, ↓dKidK_ap, ↓dIxV_ap, ↓dDisp3_ap, ↓iDict_ap, ↓dListR2_ap, ↓dCallV_ap, ↓dRevL_ap, ↓dRdV_ap, ↓dCallB_ap, ↓dLenSet_ap, ↓dFld_ap, ↓dFPut_ap, ↓dFPutZ_ap, ↓dRetN_ap, ↓dMth_ap, ↓dMake_ap, ↓dAppNew_ap, ↓dLenLL_ap, ↓dNewLL_ap, ↓dLcQ_ap, ↓iEnumTD_ap, ↓dSortSet_ap, ↓dMaxDef_ap, ↓dCB1_ap, ↓setW_t, ↓setW_pk, ↓isB_bl, ↓isI_int, ↓fzP_t, ↓withD_nil, ↓withD_d, ↓addD_i, ↓addD_l, ↓addD_t, ↓subD_i, ↓mulD_i, ↓mulD_l, ↓mulD_t, ↓divD_i, ↓modD_i, ↓powD_i, ↓negD_i, ↓cmpI_i, ↓eqD_ap, ↓neD_ap, ↓inD_l, ↓inD_t, ↓inD_ki, ↓inD_kt, ↓getD'_some, ↓ixD_l, ↓ixD_t, ↓ixD_s, ↓ixD_ki, ↓ixD_kt, ↓lenD_l, ↓lenD_t, ↓lenD_s, ↓min2D_i, ↓max2D_i, ↓absD_i, ↓intD_i, ↓intD_b, ↓listD_l, ↓listD_t, ↓tupleD_l, ↓tupleD_t, ↓dictTD_l, ↓reprN_ap, ↓isinstD_ap, ↓sliceD_l, ↓sliceD_t, ↓oSome_ap', ↓appendN_ap, ↓extendN_ap, ↓popN_ap, ↓popAtN_ap, ↓reverseN_ap, ↓setL'_some, ↓storeN_l, ↓storeN_k, ↓storeN_t, ↓kidM_mixed, ↓kidM_turn, ↓kidM_wide, ↓kid_wide, ↓setKid_wide, ↓storeN_turn, ↓penM_eq, ↓fzW_tt, ↓fzW_pk, ↓rdW_t, ↓rdW_pk, ↓rdT_fz, ↓rdT_ls, ↓rdT_dk, ↓rdT_dt, ↓fzT_fz, ↓fzT_ls, ↓fzT_dk, ↓fzT_dt, atE_none, setE_none, atE_some, setE_some, lendE, backE, atI_0, atI_1, atI_2, atI_3, ixN_0, ixN_1, ixN_2, DL.keyOf, keysOf, T.ty, retW, List.map_cons, List.map_nil, List.cons_append, List.nil_append, List.replicate, List.getElem?_cons_zero, List.getElem?_cons_succ, List.set_cons_zero, List.set_cons_succ, List.length_cons, List.length_nil, Option.map_some, Option.map_none, List.take_succ_cons, List.take_zero, List.take_nil, D.tyn, isNoneD, isi_NoneType_bool, isi_NoneType_int, isi_NoneType_str, isi_NoneType_tuple, isi_NoneType_list, isi_bool_bool, isi_bool_int, isi_bool_str, isi_bool_tuple, isi_bool_list, isi_int_bool, isi_int_int, isi_int_str, isi_int_tuple, isi_int_list, isi_str_bool, isi_str_int, isi_str_str, isi_str_tuple, isi_str_list, isi_tuple_bool, isi_tuple_int, isi_tuple_str, isi_tuple_tuple, isi_tuple_list, isi_list_bool, isi_list_int, isi_list_str, isi_list_tuple, isi_list_list, isi_dict_bool, isi_dict_int, isi_dict_str, isi_dict_tuple, isi_dict_list, if_true]; exact q
  | bl b => 
    simp only [↓dConst_ap, ↓dVar_ap, ↓dBin_ap, ↓dUn_ap, ↓dVal_ap, ↓dAnd_ap, ↓dOr_ap, ↓dNot_ap, ↓dIfE_ap, ↓dOfT_ap, ↓dBV_ap, ↓dAndV_ap, ↓dOrV_ap, ↓dNotV_ap, ↓dNil_ap, ↓dACons_ap, ↓dAConsP_ap, ↓dALend_ap, ↓dTup_ap, ↓dLst_ap, ↓dCB_ap, ↓dCall_ap, ↓dCallP_ap, ↓dNext_ap, ↓dSeq_ap, ↓dIf_ap, ↓dExpr_ap, ↓dRet_ap, ↓gN_ap, ↓gsNil_ap, ↓gsCons_ap, ↓gT_ap, ↓dSet_ap, ↓dAsg_ap, ↓iSeqD_ap, ↓iRange1_ap, ↓iRange2_ap, ↓iRange3_ap, ↓iEnumD_ap, ↓iZipD_ap, ↓dFor_ap, ↓dYes_ap, ↓oNone_ap, ↓dSlice_ap, ↓dMeth_ap, ↓dMeth0_ap, ↓dStore_ap, ↓dNewK_ap, ↓dNewT_ap, ↓dChain_ap, ↓dPar_ap, ↓dListR1_ap, ↓dNews_ap, ↓dKid_ap, ↓dKidK_ap, ↓dIxV_ap, ↓dDisp3_ap, ↓iDict_ap, ↓dListR2_ap, ↓dCallV_ap, ↓dRevL_ap, ↓dRdV_ap, ↓dCallB_ap, ↓dLenSet_ap, ↓dFld_ap, ↓dFPut_ap, ↓dFPutZ_ap, ↓dRetN_ap, ↓dMth_ap, ↓dMake_ap, ↓dAppNew_ap, ↓dLenLL_ap, ↓dNewLL_ap, ↓dLcQ_ap, ↓iEnumTD_ap, ↓dSortSet_ap, ↓dMaxDef_ap, ↓dCB1_ap, ↓setW_t, ↓setW_pk, ↓isB_bl, ↓isI_int, ↓fzP_t, ↓withD_nil, ↓withD_d, ↓addD_i, ↓addD_l, ↓addD_t, ↓subD_i, ↓mulD_i, ↓mulD_l, ↓mulD_t, ↓divD_i, ↓modD_i, ↓powD_i, ↓negD_i, ↓cmpI_i, ↓eqD_ap, ↓neD_ap, ↓inD_l, ↓inD_t, ↓inD_ki, ↓inD_kt, ↓getD'_some, ↓ixD_l, ↓ixD_t, ↓ixD_s, ↓ixD_ki, ↓ixD_kt, ↓lenD_l, ↓lenD_t, ↓lenD_s, ↓min2D_i, ↓max2D_i, ↓absD_i, ↓intD_i, ↓intD_b, ↓listD_l, ↓listD_t, ↓tupleD_l, ↓tupleD_t, ↓dictTD_l, ↓reprN_ap, ↓isinstD_ap, ↓sliceD_l, ↓sliceD_t, ↓oSome_ap', ↓appendN_ap, ↓extendN_ap, ↓popN_ap, ↓popAtN_ap, ↓reverseN_ap, ↓setL'_some, ↓storeN_l, ↓storeN_k, ↓storeN_t, ↓kidM_mixed, ↓kidM_turn, ↓kidM_wide, ↓kid_wide, ↓setKid_wide, ↓storeN_turn, ↓penM_eq, ↓fzW_tt, ↓fzW_pk, ↓rdW_t, ↓rdW_pk, ↓rdT_fz, ↓rdT_ls, ↓rdT_dk, ↓rdT_dt, ↓fzT_fz, ↓fzT_ls, ↓fzT_dk, ↓fzT_dt, atE_none, setE_none, atE_some, setE_some, lendE, backE, atI_0, atI_1, atI_2, atI_3, ixN_0, ixN_1, ixN_2, DL.keyOf, keysOf, T.ty, retW, List.map_cons, List.map_nil, List.cons_append, List.nil_append, List.replicate, List.getElem?_cons_zero, List.getElem?_cons_succ, List.set_cons_zero, List.set_cons_succ, List.length_cons, List.length_nil, Option.map_some, Option.map_none, List.take_succ_cons, List.take_zero, List.take_nil, D.tyn, isNoneD, isi_NoneType_bool, isi_NoneType_int, isi_NoneType_str, isi_NoneType_tuple, isi_NoneType_list, isi_bool_bool, isi_bool_int, isi_bool_str, isi_bool_tuple, isi_bool_list, isi_int_bool, isi_int_int, isi_int_str, isi_int_tuple, isi_int_list, isi_str_bool, isi_str_int, isi_str_str, isi_str_tuple, isi_str_list, isi_tuple_bool, isi_tuple_int, isi_tuple_str, isi_tuple_tuple, isi_tuple_list, isi_list_bool, isi_list_int, isi_list_str, isi_list_tuple, isi_list_list, isi_dict_bool, isi_dict_int, isi_dict_str, isi_dict_tuple, isi_dict_list, if_true, Bool.false_eq_true, if_false, eqv_rfl (.bl b) rfl]
    exact ⟨rfl, rfl, q⟩
  | int i =>
    simp only [↓dConst_ap, ↓dVar_ap, ↓dBin_ap, ↓dUn_ap, ↓dVal_ap, ↓dAnd_ap, ↓dOr_ap, ↓dNot_ap, ↓dIfE_ap, ↓dOfT_ap, ↓dBV_ap, ↓dAndV_ap, ↓dOrV_ap, ↓dNotV_ap, ↓dNil_ap, ↓dACons_ap, ↓dAConsP_ap, ↓dALend_ap, ↓dTup_ap, ↓dLst_ap, ↓dCB_ap, ↓dCall_ap, ↓dCallP_ap, ↓dNext_ap, ↓dSeq_ap, ↓dIf_ap, ↓dExpr_ap, ↓dRet_ap, ↓gN_ap, ↓gsNil_ap, ↓gsCons_ap, ↓gT_ap, ↓dSet_ap, ↓dAsg_ap, ↓iSeqD_ap, ↓iRange1_ap, ↓iRange2_ap, ↓iRange3_ap, ↓iEnumD_ap, ↓iZipD_ap, ↓dFor_ap, ↓dYes_ap, ↓oNone_ap, ↓dSlice_ap, ↓dMeth_ap, ↓dMeth0_ap, ↓dStore_ap, ↓dNewK_ap, ↓dNewT_ap, ↓dChain_ap, ↓dPar_ap, ↓dListR1_ap, ↓dNews_ap, ↓dKid_ap, ↓dKidK_ap, ↓dIxV_ap, ↓dDisp3_ap, ↓iDict_ap, ↓dListR2_ap, ↓dCallV_ap, ↓dRevL_ap, ↓dRdV_ap, ↓dCallB_ap, ↓dLenSet_ap, ↓dFld_ap, ↓dFPut_ap, ↓dFPutZ_ap, ↓dRetN_ap, ↓dMth_ap, ↓dMake_ap, ↓dAppNew_ap, ↓dLenLL_ap, ↓dNewLL_ap, ↓dLcQ_ap, ↓iEnumTD_ap, ↓dSortSet_ap, ↓dMaxDef_ap, ↓dCB1_ap, ↓setW_t, ↓setW_pk, ↓isB_bl, ↓isI_int, ↓fzP_t, ↓withD_nil, ↓withD_d, ↓addD_i, ↓addD_l, ↓addD_t, ↓subD_i, ↓mulD_i, ↓mulD_l, ↓mulD_t, ↓divD_i, ↓modD_i, ↓powD_i, ↓negD_i, ↓cmpI_i, ↓eqD_ap, ↓neD_ap, ↓inD_l, ↓inD_t, ↓inD_ki, ↓inD_kt, ↓getD'_some, ↓ixD_l, ↓ixD_t, ↓ixD_s, ↓ixD_ki, ↓ixD_kt, ↓lenD_l, ↓lenD_t, ↓lenD_s, ↓min2D_i, ↓max2D_i, ↓absD_i, ↓intD_i, ↓intD_b, ↓listD_l, ↓listD_t, ↓tupleD_l, ↓tupleD_t, ↓dictTD_l, ↓reprN_ap, ↓isinstD_ap, ↓sliceD_l, ↓sliceD_t, ↓oSome_ap', ↓appendN_ap, ↓extendN_ap, ↓popN_ap, ↓popAtN_ap, ↓reverseN_ap, ↓setL'_some, ↓storeN_l, ↓storeN_k, ↓storeN_t, ↓kidM_mixed, ↓kidM_turn, ↓kidM_wide, ↓kid_wide, ↓setKid_wide, ↓storeN_turn, ↓penM_eq, ↓fzW_tt, ↓fzW_pk, ↓rdW_t, ↓rdW_pk, ↓rdT_fz, ↓rdT_ls, ↓rdT_dk, ↓rdT_dt, ↓fzT_fz, ↓fzT_ls, ↓fzT_dk, ↓fzT_dt, atE_none, setE_none, atE_some, setE_some, lendE, backE, atI_0, atI_1, atI_2, atI_3, ixN_0, ixN_1, ixN_2, DL.keyOf, keysOf, T.ty, retW, List.map_cons, List.map_nil, List.cons_append, List.nil_append, List.replicate, List.getElem?_cons_zero, List.getElem?_cons_succ, List.set_cons_zero, List.set_cons_succ, List.length_cons, List.length_nil, Option.map_some, Option.map_none, List.take_succ_cons, List.take_zero, List.take_nil, D.tyn, isNoneD, isi_NoneType_bool, isi_NoneType_int, isi_NoneType_str, isi_NoneType_tuple, isi_NoneType_list, isi_bool_bool, isi_bool_int, isi_bool_str, isi_bool_tuple, isi_bool_list, isi_int_bool, isi_int_int, isi_int_str, isi_int_tuple, isi_int_list, isi_str_bool, isi_str_int, isi_str_str, isi_str_tuple, isi_str_list, isi_tuple_bool, isi_tuple_int, isi_tuple_str, isi_tuple_tuple, isi_tuple_list, isi_list_bool, isi_list_int, isi_list_str, isi_list_tuple, isi_list_list, isi_dict_bool, isi_dict_int, isi_dict_str, isi_dict_tuple, isi_dict_list, if_true, Bool.false_eq_true, if_false, eqv_rfl (.int i) rfl]
    exact ⟨rfl, rfl, q⟩
  | str s =>
    simp only [↓dConst_ap, ↓dVar_ap, ↓dBin_ap, ↓dUn_ap, ↓dVal_ap, ↓dAnd_ap, ↓dOr_ap, ↓dNot_ap, ↓dIfE_ap, ↓dOfT_ap, ↓dBV_ap, ↓dAndV_ap, ↓dOrV_ap, ↓dNotV_ap, ↓dNil_ap, ↓dACons_ap, ↓dAConsP_ap, ↓dALend_ap, ↓dTup_ap, ↓dLst_ap, ↓dCB_ap, ↓dCall_ap, ↓dCallP_ap, ↓dNext_ap, ↓dSeq_ap, ↓dIf_ap, ↓dExpr_ap, ↓dRet_ap, ↓gN_ap, ↓gsNil_ap, ↓gsCons_ap, ↓gT_ap, ↓dSet_ap, ↓dAsg_ap, ↓iSeqD_ap, ↓iRange1_ap, ↓iRange2_ap, ↓iRange3_ap, ↓iEnumD_ap, ↓iZipD_ap, ↓dFor_ap, ↓dYes_ap, ↓oNone_ap, ↓dSlice_ap, ↓dMeth_ap, ↓dMeth0_ap, ↓dStore_ap, ↓dNewK_ap, ↓dNewT_ap, ↓dChain_ap, ↓dPar_ap, ↓dListR1_ap, ↓dNews_ap, ↓dKid_ap, ↓dKidK_ap, ↓dIxV_ap, ↓dDisp3_ap, ↓iDict_ap, ↓dListR2_ap, ↓dCallV_ap, ↓dRevL_ap, ↓dRdV_ap, ↓dCallB_ap, ↓dLenSet_ap, ↓dFld_ap, ↓dFPut_ap, ↓dFPutZ_ap, ↓dRetN_ap, ↓dMth_ap, ↓dMake_ap, ↓dAppNew_ap, ↓dLenLL_ap, ↓dNewLL_ap, ↓dLcQ_ap, ↓iEnumTD_ap, ↓dSortSet_ap, ↓dMaxDef_ap, ↓dCB1_ap, ↓setW_t, ↓setW_pk, ↓isB_bl, ↓isI_int, ↓fzP_t, ↓withD_nil, ↓withD_d, ↓addD_i, ↓addD_l, ↓addD_t, ↓subD_i, ↓mulD_i, ↓mulD_l, ↓mulD_t, ↓divD_i, ↓modD_i, ↓powD_i, ↓negD_i, ↓cmpI_i, ↓eqD_ap, ↓neD_ap, ↓inD_l, ↓inD_t, ↓inD_ki, ↓inD_kt, ↓getD'_some, ↓ixD_l, ↓ixD_t, ↓ixD_s, ↓ixD_ki, ↓ixD_kt, ↓lenD_l, ↓lenD_t, ↓lenD_s, ↓min2D_i, ↓max2D_i, ↓absD_i, ↓intD_i, ↓intD_b, ↓listD_l, ↓listD_t, ↓tupleD_l, ↓tupleD_t, ↓dictTD_l, ↓reprN_ap, ↓isinstD_ap, ↓sliceD_l, ↓sliceD_t, ↓oSome_ap', ↓appendN_ap, ↓extendN_ap, ↓popN_ap, ↓popAtN_ap, ↓reverseN_ap, ↓setL'_some, ↓storeN_l, ↓storeN_k, ↓storeN_t, ↓kidM_mixed, ↓kidM_turn, ↓kidM_wide, ↓kid_wide, ↓setKid_wide, ↓storeN_turn, ↓penM_eq, ↓fzW_tt, ↓fzW_pk, ↓rdW_t, ↓rdW_pk, ↓rdT_fz, ↓rdT_ls, ↓rdT_dk, ↓rdT_dt, ↓fzT_fz, ↓fzT_ls, ↓fzT_dk, ↓fzT_dt, atE_none, setE_none, atE_some, setE_some, lendE, backE, atI_0, atI_1, atI_2, atI_3, ixN_0, ixN_1, ixN_2, DL.keyOf, keysOf, T.ty, retW, List.map_cons, List.map_nil, List.cons_append, List.nil_append, List.replicate, List.getElem?_cons_zero, List.getElem?_cons_succ, List.set_cons_zero, List.set_cons_succ, List.length_cons, List.length_nil, Option.map_some, Option.map_none, List.take_succ_cons, List.take_zero, List.take_nil, D.tyn, isNoneD, isi_NoneType_bool, isi_NoneType_int, isi_NoneType_str, isi_NoneType_tuple, isi_NoneType_list, isi_bool_bool, isi_bool_int, isi_bool_str, isi_bool_tuple, isi_bool_list, isi_int_bool, isi_int_int, isi_int_str, isi_int_tuple, isi_int_list, isi_str_bool, isi_str_int, isi_str_str, isi_str_tuple, isi_str_list, isi_tuple_bool, isi_tuple_int, isi_tuple_str, isi_tuple_tuple, isi_tuple_list, isi_list_bool, isi_list_int, isi_list_str, isi_list_tuple, isi_list_list, isi_dict_bool, isi_dict_int, isi_dict_str, isi_dict_tuple, isi_dict_list, if_true, Bool.false_eq_true, if_false, eqv_rfl (.str s) rfl]
    have : (D.str s).shp := by cases k <;> exact hx
    exact ⟨this, this, q⟩
  | tup l =>
    simp only [↓dConst_ap, ↓dVar_ap, ↓dBin_ap, ↓dUn_ap, ↓dVal_ap, ↓dAnd_ap, ↓dOr_ap, ↓dNot_ap, ↓dIfE_ap, ↓dOfT_ap, ↓dBV_ap, ↓dAndV_ap, ↓dOrV_ap, ↓dNotV_ap, ↓dNil_ap, ↓dACons_ap, ↓dAConsP_ap, ↓dALend_ap, ↓dTup_ap, ↓dLst_ap, ↓dCB_ap, ↓dCall_ap, ↓dCallP_ap, ↓dNext_ap, ↓dSeq_ap, ↓dIf_ap, ↓dExpr_ap, ↓dRet_ap, ↓gN_ap, ↓gsNil_ap, ↓gsCons_ap, ↓gT_ap, ↓dSet_ap, ↓dAsg_ap, ↓iSeqD_ap, ↓iRange1_ap, ↓iRange2_ap, ↓iRange3_ap, ↓iEnumD_ap, ↓iZipD_ap, ↓dFor_ap, ↓dYes_ap, ↓oNone_ap, ↓dSlice_ap, ↓dMeth_ap, ↓dMeth0_ap, ↓dStore_ap, ↓dNewK_ap, ↓dNewT_ap, ↓dChain_ap, ↓dPar_ap, ↓dListR1_ap, ↓dNews_ap, ↓dKid_ap, ↓dKidK_ap, ↓dIxV_ap, ↓dDisp3_ap, ↓iDict_ap, ↓dListR2_ap, ↓dCallV_ap, ↓dRevL_ap, ↓dRdV_ap, ↓dCallB_ap, ↓dLenSet_ap, ↓dFld_ap, ↓dFPut_ap, ↓dFPutZ_ap, ↓dRetN_ap, ↓dMth_ap, ↓dMake_ap, ↓dAppNew_ap, ↓dLenLL_ap, ↓dNewLL_ap, ↓dLcQ_ap, ↓iEnumTD_ap, ↓dSortSet_ap, ↓dMaxDef_ap, ↓dCB1_ap, ↓setW_t, ↓setW_pk, ↓isB_bl, ↓isI_int, ↓fzP_t, ↓withD_nil, ↓withD_d, ↓addD_i, ↓addD_l, ↓addD_t, ↓subD_i, ↓mulD_i, ↓mulD_l, ↓mulD_t, ↓divD_i, ↓modD_i, ↓powD_i, ↓negD_i, ↓cmpI_i, ↓eqD_ap, ↓neD_ap, ↓inD_l, ↓inD_t, ↓inD_ki, ↓inD_kt, ↓getD'_some, ↓ixD_l, ↓ixD_t, ↓ixD_s, ↓ixD_ki, ↓ixD_kt, ↓lenD_l, ↓lenD_t, ↓lenD_s, ↓min2D_i, ↓max2D_i, ↓absD_i, ↓intD_i, ↓intD_b, ↓listD_l, ↓listD_t, ↓tupleD_l, ↓tupleD_t, ↓dictTD_l, ↓reprN_ap, ↓isinstD_ap, ↓sliceD_l, ↓sliceD_t, ↓oSome_ap', ↓appendN_ap, ↓extendN_ap, ↓popN_ap, ↓popAtN_ap, ↓reverseN_ap, ↓setL'_some, ↓storeN_l, ↓storeN_k, ↓storeN_t, ↓kidM_mixed, ↓kidM_turn, ↓kidM_wide, ↓kid_wide, ↓setKid_wide, ↓storeN_turn, ↓penM_eq, ↓fzW_tt, ↓fzW_pk, ↓rdW_t, ↓rdW_pk, ↓rdT_fz, ↓rdT_ls, ↓rdT_dk, ↓rdT_dt, ↓fzT_fz, ↓fzT_ls, ↓fzT_dk, ↓fzT_dt, atE_none, setE_none, atE_some, setE_some, lendE, backE, atI_0, atI_1, atI_2, atI_3, ixN_0, ixN_1, ixN_2, DL.keyOf, keysOf, T.ty, retW, List.map_cons, List.map_nil, List.cons_append, List.nil_append, List.replicate, List.getElem?_cons_zero, List.getElem?_cons_succ, List.set_cons_zero, List.set_cons_succ, List.length_cons, List.length_nil, Option.map_some, Option.map_none, List.take_succ_cons, List.take_zero, List.take_nil, D.tyn, isNoneD, isi_NoneType_bool, isi_NoneType_int, isi_NoneType_str, isi_NoneType_tuple, isi_NoneType_list, isi_bool_bool, isi_bool_int, isi_bool_str, isi_bool_tuple, isi_bool_list, isi_int_bool, isi_int_int, isi_int_str, isi_int_tuple, isi_int_list, isi_str_bool, isi_str_int, isi_str_str, isi_str_tuple, isi_str_list, isi_tuple_bool, isi_tuple_int, isi_tuple_str, isi_tuple_tuple, isi_tuple_list, isi_list_bool, isi_list_int, isi_list_str, isi_list_tuple, isi_list_list, isi_dict_bool, isi_dict_int, isi_dict_str, isi_dict_tuple, isi_dict_list, if_true, Bool.false_eq_true, if_false, bne_self_eq_false, eqv_rfl (.bl true) rfl, eqv_rfl (.bl false) rfl, eqv_rfl (.int l.length) rfl, Bool.not_true]
    refine ⟨rfl, rfl, rfl, rfl, rfl, rfl, ?_⟩
    cases k with
    | zero => exact hx.elim
    | succ k =>
      simp only [dLc, ↓dConst_ap, ↓dVar_ap, ↓dBin_ap, ↓dUn_ap, ↓dVal_ap, ↓dAnd_ap, ↓dOr_ap, ↓dNot_ap, ↓dIfE_ap, ↓dOfT_ap, ↓dBV_ap, ↓dAndV_ap, ↓dOrV_ap, ↓dNotV_ap, ↓dNil_ap, ↓dACons_ap, ↓dAConsP_ap, ↓dALend_ap, ↓dTup_ap, ↓dLst_ap, ↓dCB_ap, ↓dCall_ap, ↓dCallP_ap, ↓dNext_ap, ↓dSeq_ap, ↓dIf_ap, ↓dExpr_ap, ↓dRet_ap, ↓gN_ap, ↓gsNil_ap, ↓gsCons_ap, ↓gT_ap, ↓dSet_ap, ↓dAsg_ap, ↓iSeqD_ap, ↓iRange1_ap, ↓iRange2_ap, ↓iRange3_ap, ↓iEnumD_ap, ↓iZipD_ap, ↓dFor_ap, ↓dYes_ap, ↓oNone_ap, ↓dSlice_ap, ↓dMeth_ap, ↓dMeth0_ap, ↓dStore_ap, ↓dNewK_ap, ↓dNewT_ap, ↓dChain_ap, ↓dPar_ap, ↓dListR1_ap, ↓dNews_ap, ↓dKid_ap, ↓dKidK_ap, ↓dIxV_ap, ↓dDisp3_ap, ↓iDict_ap, ↓dListR2_ap, ↓dCallV_ap, ↓dRevL_ap, ↓dRdV_ap, ↓dCallB_ap, ↓dLenSet_ap, ↓dFld_ap, ↓dFPut_ap, ↓dFPutZ_ap, ↓dRetN_ap, ↓dMth_ap, ↓dMake_ap, ↓dAppNew_ap, ↓dLenLL_ap, ↓dNewLL_ap, ↓dLcQ_ap, ↓iEnumTD_ap, ↓dSortSet_ap, ↓dMaxDef_ap, ↓dCB1_ap, ↓setW_t, ↓setW_pk, ↓isB_bl, ↓isI_int, ↓fzP_t, ↓withD_nil, ↓withD_d, ↓addD_i, ↓addD_l, ↓addD_t, ↓subD_i, ↓mulD_i, ↓mulD_l, ↓mulD_t, ↓divD_i, ↓modD_i, ↓powD_i, ↓negD_i, ↓cmpI_i, ↓eqD_ap, ↓neD_ap, ↓inD_l, ↓inD_t, ↓inD_ki, ↓inD_kt, ↓getD'_some, ↓ixD_l, ↓ixD_t, ↓ixD_s, ↓ixD_ki, ↓ixD_kt, ↓lenD_l, ↓lenD_t, ↓lenD_s, ↓min2D_i, ↓max2D_i, ↓absD_i, ↓intD_i, ↓intD_b, ↓listD_l, ↓listD_t, ↓tupleD_l, ↓tupleD_t, ↓dictTD_l, ↓reprN_ap, ↓isinstD_ap, ↓sliceD_l, ↓sliceD_t, ↓oSome_ap', ↓appendN_ap, ↓extendN_ap, ↓popN_ap, ↓popAtN_ap, ↓reverseN_ap, ↓setL'_some, ↓storeN_l, ↓storeN_k, ↓storeN_t, ↓kidM_mixed, ↓kidM_turn, ↓kidM_wide, ↓kid_wide, ↓setKid_wide, ↓storeN_turn, ↓penM_eq, ↓fzW_tt, ↓fzW_pk, ↓rdW_t, ↓rdW_pk, ↓rdT_fz, ↓rdT_ls, ↓rdT_dk, ↓rdT_dt, ↓fzT_fz, ↓fzT_ls, ↓fzT_dk, ↓fzT_dt, atE_none, setE_none, atE_some, setE_some, lendE, backE, atI_0, atI_1, atI_2, atI_3, ixN_0, ixN_1, ixN_2, DL.keyOf, keysOf, T.ty, retW, List.map_cons, List.map_nil, List.cons_append, List.nil_append, List.replicate, List.getElem?_cons_zero, List.getElem?_cons_succ, List.set_cons_zero, List.set_cons_succ, List.length_cons, List.length_nil, Option.map_some, Option.map_none, List.take_succ_cons, List.take_zero, List.take_nil]
      exact same_loop k l _ hx.1 hx.2 q
  | lst l =>
    simp only [↓dConst_ap, ↓dVar_ap, ↓dBin_ap, ↓dUn_ap, ↓dVal_ap, ↓dAnd_ap, ↓dOr_ap, ↓dNot_ap, ↓dIfE_ap, ↓dOfT_ap, ↓dBV_ap, ↓dAndV_ap, ↓dOrV_ap, ↓dNotV_ap, ↓dNil_ap, ↓dACons_ap, ↓dAConsP_ap, ↓dALend_ap, ↓dTup_ap, ↓dLst_ap, ↓dCB_ap, ↓dCall_ap, ↓dCallP_ap, ↓dNext_ap, ↓dSeq_ap, ↓dIf_ap, ↓dExpr_ap, ↓dRet_ap, ↓gN_ap, ↓gsNil_ap, ↓gsCons_ap, ↓gT_ap, ↓dSet_ap, ↓dAsg_ap, ↓iSeqD_ap, ↓iRange1_ap, ↓iRange2_ap, ↓iRange3_ap, ↓iEnumD_ap, ↓iZipD_ap, ↓dFor_ap, ↓dYes_ap, ↓oNone_ap, ↓dSlice_ap, ↓dMeth_ap, ↓dMeth0_ap, ↓dStore_ap, ↓dNewK_ap, ↓dNewT_ap, ↓dChain_ap, ↓dPar_ap, ↓dListR1_ap, ↓dNews_ap, ↓dKid_ap, ↓dKidK_ap, ↓dIxV_ap, ↓dDisp3_ap, ↓iDict_ap, ↓dListR2_ap, ↓dCallV_ap, ↓dRevL_ap, ↓dRdV_ap, ↓dCallB_ap, ↓dLenSet_ap, ↓dFld_ap, ↓dFPut_ap, ↓dFPutZ_ap, ↓dRetN_ap, ↓dMth_ap, ↓dMake_ap, ↓dAppNew_ap, ↓dLenLL_ap, ↓dNewLL_ap, ↓dLcQ_ap, ↓iEnumTD_ap, ↓dSortSet_ap, ↓dMaxDef_ap, ↓dCB1_ap, ↓setW_t, ↓setW_pk, ↓isB_bl, ↓isI_int, ↓fzP_t, ↓withD_nil, ↓withD_d, ↓addD_i, ↓addD_l, ↓addD_t, ↓subD_i, ↓mulD_i, ↓mulD_l, ↓mulD_t, ↓divD_i, ↓modD_i, ↓powD_i, ↓negD_i, ↓cmpI_i, ↓eqD_ap, ↓neD_ap, ↓inD_l, ↓inD_t, ↓inD_ki, ↓inD_kt, ↓getD'_some, ↓ixD_l, ↓ixD_t, ↓ixD_s, ↓ixD_ki, ↓ixD_kt, ↓lenD_l, ↓lenD_t, ↓lenD_s, ↓min2D_i, ↓max2D_i, ↓absD_i, ↓intD_i, ↓intD_b, ↓listD_l, ↓listD_t, ↓tupleD_l, ↓tupleD_t, ↓dictTD_l, ↓reprN_ap, ↓isinstD_ap, ↓sliceD_l, ↓sliceD_t, ↓oSome_ap', ↓appendN_ap, ↓extendN_ap, ↓popN_ap, ↓popAtN_ap, ↓reverseN_ap, ↓setL'_some, ↓storeN_l, ↓storeN_k, ↓storeN_t, ↓kidM_mixed, ↓kidM_turn, ↓kidM_wide, ↓kid_wide, ↓setKid_wide, ↓storeN_turn, ↓penM_eq, ↓fzW_tt, ↓fzW_pk, ↓rdW_t, ↓rdW_pk, ↓rdT_fz, ↓rdT_ls, ↓rdT_dk, ↓rdT_dt, ↓fzT_fz, ↓fzT_ls, ↓fzT_dk, ↓fzT_dt, atE_none, setE_none, atE_some, setE_some, lendE, backE, atI_0, atI_1, atI_2, atI_3, ixN_0, ixN_1, ixN_2, DL.keyOf, keysOf, T.ty, retW, List.map_cons, List.map_nil, List.cons_append, List.nil_append, List.replicate, List.getElem?_cons_zero, List.getElem?_cons_succ, List.set_cons_zero, List.set_cons_succ, List.length_cons, List.length_nil, Option.map_some, Option.map_none, List.take_succ_cons, List.take_zero, List.take_nil, D.tyn, isNoneD, isi_NoneType_bool, isi_NoneType_int, isi_NoneType_str, isi_NoneType_tuple, isi_NoneType_list, isi_bool_bool, isi_bool_int, isi_bool_str, isi_bool_tuple, isi_bool_list, isi_int_bool, isi_int_int, isi_int_str, isi_int_tuple, isi_int_list, isi_str_bool, isi_str_int, isi_str_str, isi_str_tuple, isi_str_list, isi_tuple_bool, isi_tuple_int, isi_tuple_str, isi_tuple_tuple, isi_tuple_list, isi_list_bool, isi_list_int, isi_list_str, isi_list_tuple, isi_list_list, isi_dict_bool, isi_dict_int, isi_dict_str, isi_dict_tuple, isi_dict_list, if_true, Bool.false_eq_true, if_false, bne_self_eq_false, eqv_rfl (.bl true) rfl, eqv_rfl (.bl false) rfl, eqv_rfl (.int l.length) rfl, Bool.not_true]
    refine ⟨rfl, rfl, rfl, rfl, rfl, rfl, ?_⟩
    cases k with
    | zero => exact hx.elim
    | succ k =>
      simp only [dLc, ↓dConst_ap, ↓dVar_ap, ↓dBin_ap, ↓dUn_ap, ↓dVal_ap, ↓dAnd_ap, ↓dOr_ap, ↓dNot_ap, ↓dIfE_ap, ↓dOfT_ap, ↓dBV_ap, ↓dAndV_ap, ↓dOrV_ap, ↓dNotV_ap, ↓dNil_ap, ↓dACons_ap, ↓dAConsP_ap, ↓dALend_ap, ↓dTup_ap, ↓dLst_ap, ↓dCB_ap, ↓dCall_ap, ↓dCallP_ap, ↓dNext_ap, ↓dSeq_ap, ↓dIf_ap, ↓dExpr_ap, ↓dRet_ap, ↓gN_ap, ↓gsNil_ap, ↓gsCons_ap, ↓gT_ap, ↓dSet_ap, ↓dAsg_ap, ↓iSeqD_ap, ↓iRange1_ap, ↓iRange2_ap, ↓iRange3_ap, ↓iEnumD_ap, ↓iZipD_ap, ↓dFor_ap, ↓dYes_ap, ↓oNone_ap, ↓dSlice_ap, ↓dMeth_ap, ↓dMeth0_ap, ↓dStore_ap, ↓dNewK_ap, ↓dNewT_ap, ↓dChain_ap, ↓dPar_ap, ↓dListR1_ap, ↓dNews_ap, ↓dKid_ap, ↓dKidK_ap, ↓dIxV_ap, ↓dDisp3_ap, ↓iDict_ap, ↓dListR2_ap, ↓dCallV_ap, ↓dRevL_ap, ↓dRdV_ap, ↓dCallB_ap, ↓dLenSet_ap, ↓dFld_ap, ↓dFPut_ap, ↓dFPutZ_ap, ↓dRetN_ap, ↓dMth_ap, ↓dMake_ap, ↓dAppNew_ap, ↓dLenLL_ap, ↓dNewLL_ap, ↓dLcQ_ap, ↓iEnumTD_ap, ↓dSortSet_ap, ↓dMaxDef_ap, ↓dCB1_ap, ↓setW_t, ↓setW_pk, ↓isB_bl, ↓isI_int, ↓fzP_t, ↓withD_nil, ↓withD_d, ↓addD_i, ↓addD_l, ↓addD_t, ↓subD_i, ↓mulD_i, ↓mulD_l, ↓mulD_t, ↓divD_i, ↓modD_i, ↓powD_i, ↓negD_i, ↓cmpI_i, ↓eqD_ap, ↓neD_ap, ↓inD_l, ↓inD_t, ↓inD_ki, ↓inD_kt, ↓getD'_some, ↓ixD_l, ↓ixD_t, ↓ixD_s, ↓ixD_ki, ↓ixD_kt, ↓lenD_l, ↓lenD_t, ↓lenD_s, ↓min2D_i, ↓max2D_i, ↓absD_i, ↓intD_i, ↓intD_b, ↓listD_l, ↓listD_t, ↓tupleD_l, ↓tupleD_t, ↓dictTD_l, ↓reprN_ap, ↓isinstD_ap, ↓sliceD_l, ↓sliceD_t, ↓oSome_ap', ↓appendN_ap, ↓extendN_ap, ↓popN_ap, ↓popAtN_ap, ↓reverseN_ap, ↓setL'_some, ↓storeN_l, ↓storeN_k, ↓storeN_t, ↓kidM_mixed, ↓kidM_turn, ↓kidM_wide, ↓kid_wide, ↓setKid_wide, ↓storeN_turn, ↓penM_eq, ↓fzW_tt, ↓fzW_pk, ↓rdW_t, ↓rdW_pk, ↓rdT_fz, ↓rdT_ls, ↓rdT_dk, ↓rdT_dt, ↓fzT_fz, ↓fzT_ls, ↓fzT_dk, ↓fzT_dt, atE_none, setE_none, atE_some, setE_some, lendE, backE, atI_0, atI_1, atI_2, atI_3, ixN_0, ixN_1, ixN_2, DL.keyOf, keysOf, T.ty, retW, List.map_cons, List.map_nil, List.cons_append, List.nil_append, List.replicate, List.getElem?_cons_zero, List.getElem?_cons_succ, List.set_cons_zero, List.set_cons_succ, List.length_cons, List.length_nil, Option.map_some, Option.map_none, List.take_succ_cons, List.take_zero, List.take_nil]
      exact same_loop k l _ hx.1 hx.2 q
  | opq _ => cases k <;> exact hx.elim
  | dK _ => cases k <;> exact hx.elim
  | dT _ => cases k <;> exact hx.elim
  | scr _ => cases k <;> exact hx.elim

theorem law__law_tsame : ∀ ts R, F__law_tsame ts R → Fw__law_tsame 5 ts R := by
  rintro ts R ⟨x, y, rfl, ⟨rfl, hp⟩, q⟩
  exact ⟨x, rfl, hp, q⟩

theorem ok__law_tsame {f : Addr} {fd : FuncData} (dp : Nat) (Fd : C8.Def K mg "_law_tsame" s__law_tsame f fd) (bd : Binds K fd ["found", "due"] []) (h__law_tsame : Fn P w K mg base (0 + dp) "_law_tsame" 2 0 (Fw__law_tsame dp)) (T_all : mg "all" = none) (T_bool : mg "bool" = none) (T_int : mg "int" = none) (T_isinstance : mg "isinstance" = none) (T_len : mg "len" = none) (T_list : mg "list" = none) (T_str : mg "str" = none) (T_tuple : mg "tuple" = none) (T_zip : mg "zip" = none) : Fn P w K mg base (0 + dp + 1) "_law_tsame" 2 0 (Fw__law_tsame (dp + 1)) := by
  refine fn_mk (body := b__law_tsame dp) Fd bd sc__law_tsame rfl (by decide) (fun cdv A outer s H E hgd hr => ?_) (sim__law_tsame dp)
  have nd := sc__law_tsame.nd
  have hu64 := hr.units
  have hu65 := hu65 hr
  have hu1 := hu1 hr
  have hu2 := hu2 hr
  have hu0 := hr.units0
  exact (dss_cons (ds_if (dt_cmp isN_ok (nomark _) (de_var (pv 1)) de_non) (dss_one (ds_ret (de_cmp isN_ok (nomark _) (de_var (pv 0)) de_non))) dss_nil)
    (dss_cons (ds_if (dt_val (de_cb1c isinst_ok (by rfl) T_isinstance (by decide +kernel) (de_var (pv 1)) (pe_bltn (v := .ty "bool") (by rfl) T_bool (by decide +kernel) rfl) (fun _ => .opq))) (dss_one (ds_ret (de_and (de_cb1c isinst_ok (by rfl) T_isinstance (by decide +kernel) (de_var (pv 0)) (pe_bltn (v := .ty "bool") (by rfl) T_bool (by decide +kernel) rfl) (fun _ => .opq)) (de_one (de_cmp (eq_ok hu64) (nomark _) (de_var (pv 0)) (de_var (pv 1))))))) dss_nil)
    (dss_cons (ds_if (dt_val (de_cb1c isinst_ok (by rfl) T_isinstance (by decide +kernel) (de_var (pv 1)) (pe_bltn (v := .ty "int") (by rfl) T_int (by decide +kernel) rfl) (fun _ => .opq))) (dss_one (ds_ret (de_and (de_cb1c isinst_ok (by rfl) T_isinstance (by decide +kernel) (de_var (pv 0)) (pe_bltn (v := .ty "int") (by rfl) T_int (by decide +kernel) rfl) (fun _ => .opq)) (de_and (de_not (de_cb1c isinst_ok (by rfl) T_isinstance (by decide +kernel) (de_var (pv 0)) (pe_bltn (v := .ty "bool") (by rfl) T_bool (by decide +kernel) rfl) (fun _ => .opq))) (de_one (de_cmp (eq_ok hu64) (nomark _) (de_var (pv 0)) (de_var (pv 1)))))))) dss_nil)
    (dss_cons (ds_if (dt_val (de_cb1c isinst_ok (by rfl) T_isinstance (by decide +kernel) (de_var (pv 1)) (pe_bltn (v := .ty "str") (by rfl) T_str (by decide +kernel) rfl) (fun _ => .opq))) (dss_one (ds_ret (de_and (de_cb1c isinst_ok (by rfl) T_isinstance (by decide +kernel) (de_var (pv 0)) (pe_bltn (v := .ty "str") (by rfl) T_str (by decide +kernel) rfl) (fun _ => .opq)) (de_one (de_cmp (eq_ok hu64) (nomark _) (de_var (pv 0)) (de_var (pv 1))))))) dss_nil)
    (dss_cons (ds_if (DW.dt (dw_or (dt_cmp (ne_ok hu64) (nomark _) (de_cb1c isinst_ok (by rfl) T_isinstance (by decide +kernel) (de_var (pv 1)) (pe_bltn (v := .ty "tuple") (by rfl) T_tuple (by decide +kernel) rfl) (fun _ => .opq)) (de_cb1c isinst_ok (by rfl) T_isinstance (by decide +kernel) (de_var (pv 0)) (pe_bltn (v := .ty "tuple") (by rfl) T_tuple (by decide +kernel) rfl) (fun _ => .opq))) (dw_or1 (dt_cmp (ne_ok hu64) (nomark _) (de_cb1c isinst_ok (by rfl) T_isinstance (by decide +kernel) (de_var (pv 1)) (pe_bltn (v := .ty "list") (by rfl) T_list (by decide +kernel) rfl) (fun _ => .opq)) (de_cb1c isinst_ok (by rfl) T_isinstance (by decide +kernel) (de_var (pv 0)) (pe_bltn (v := .ty "list") (by rfl) T_list (by decide +kernel) rfl) (fun _ => .opq)))))) (dss_one (ds_ret de_bl)) dss_nil)
    (dss_one (ds_ret (de_and (de_cmp (eq_ok hu64) (nomark _) (de_cb1 len_ok (by rfl) T_len (by decide +kernel) (de_var (pv 0))) (de_cb1 len_ok (by rfl) T_len (by decide +kernel) (de_var (pv 1)))) (de_one (de_cb1 (all_ok rfl) (by rfl) T_all (by decide +kernel) (de_lc (own := [("one", 2), ("other", 3)]) rfl nd (di_zip (by rfl) T_zip (da_cons (de_var (pv 0)) (da_cons (de_var (pv 1)) da_nil))) (blkOk_by (N := ["found", "due", "one", "other"]) (sc := C8.fnScope s__law_tsame) (by decide +kernel)) (fun _ _ _ _ _ => (dg_tup rfl (dgs_cons (dg_name (i := 2) (pg_name (i := 2) nd rfl (by first | exact .inl rfl | exact .inr rfl)) (fun σ x => wipe_set x (by decide))) (dgs_cons (dg_name (i := 3) (pg_name (i := 3) nd rfl (by first | exact .inl rfl | exact .inr rfl)) (fun σ x => wipe_set x (by decide))) dgs_nil)))) (fun _ _ _ _ _ => dts_nil) (fun _ _ _ _ _ => (de_call h__law_tsame hgd hr (by omega) (by rfl) (da_cons (de_var (pv 2)) (da_cons (de_var (pv 3)) da_nil)))))))))))))))

abbrev s__law_tweb : Stmt := topS 10
theorem sc__law_tweb : FnScope ["pen", "limit", "n", "way", "by", "ties", "a", "b", "good"] ["pen", "limit"] (C8.fnScope s__law_tweb) := C8.fnScope_by (by decide +kernel)

def w__law_tweb (pen : Pen) (limit : Int) (Q : Pen → (Int × (List (Int × Int))) → Prop) : Prop :=
  w__law_tdraw pen (limit + (1 : Int)) fun pen1 x =>
  w__law_tdraw pen1 (9 : Int) fun pen2 x1 =>
  w__law_tdraw pen2 (5 : Int) fun pen3 x2 =>
  bnd (([] : List (Int × Int))) fun ties =>
  (-(2 ^ 62) ≤ x ∧ x < 2 ^ 62) ∧ wFor2 (irange 0 x) pen3 ties (fun pen4 ties1 (a : Int) nx =>
  (-(2 ^ 62) ≤ a + (1 : Int) ∧ a + (1 : Int) < 2 ^ 62 ∧ -(2 ^ 62) ≤ x ∧ x < 2 ^ 62) ∧ wFor2 (irange (a + (1 : Int)) x) pen4 ties1 (fun pen5 ties2 (b : Int) nx =>
  (0 < (1 : Int) + x2) ∧ (0 < (1 : Int) + x2) ∧ (InR [false, true, inl (b - a) ([(1 : Int), x - (1 : Int)] : List Int), !decide (a % ((1 : Int) + x2) = b % ((1 : Int) + x2))] (min x1 (3 : Int))) ∧ bnd (gi [false, true, inl (b - a) ([(1 : Int), x - (1 : Int)] : List Int), !decide (a % ((1 : Int) + x2) = b % ((1 : Int) + x2))] (min x1 (3 : Int))) fun good =>
  wJ2 (fun j1 =>
  wIf (decide ((3 : Int) < x1))
  (w__law_tdraw pen5 (6 : Int) fun pen7 x3 =>
  j1 pen7 (decide (x3 < (1 : Int) + x2)))
  (j1 pen5 good))
  (fun (pen6 : Pen) (good1 : Bool) => wJ1 (fun j2 =>
  wIf (good1)
  ((ties2.length < 10000000) ∧ bnd (ties2 ++ [(a, b)]) fun ties4 =>
  j2 ties4)
  (j2 ties2))
  (fun (ties3 : List (Int × Int)) => nx pen6 ties3)))
  (fun (pen5 : Pen) (ties2 : List (Int × Int)) => nx pen5 ties2))
  (fun (pen4 : Pen) (ties1 : List (Int × Int)) => Q pen4 (x, ties1))

theorem menu4 {b : Bool} {x : Int} (h0 : 0 ≤ x) : InR [false, true, b, b] (min x 3) := by constructor <;> simp <;> omega
theorem spec__law_tweb {pen : Pen} {limit : Int} {c : Nat} {Q : Pen → Web → Prop} (hp : POk pen c) (hc : c < 2 ^ 59) (h0 : 0 ≤ limit) (h1 : limit ≤ 60) (q : ∀ pen w, POk pen (c + 5000) → IsWeb w → w.1 ≤ limit → Q pen w) : w__law_tweb pen limit Q := by
  unfold w__law_tweb
  refine drawM hp (by omega) (by omega) (by omega) fun pen n hp n0 n1 => ?_
  refine drawM hp (by omega) (by omega) (by omega) fun pen way hp y0 y1 => ?_
  refine drawM hp (by omega) (by omega) (by omega) fun pen by_ hp b0 b1 => ?_
  rintro _ rfl
  refine ⟨by omega, ?_⟩
  refine wFor2_z n0 (fun a pen ties => POk pen (c + 3 + a.toNat * 64) ∧ ties.Sublist (rowsTo n (fun _ _ => true) a)) ⟨hp.up (by omega), by simp⟩ ?_ ?_
  · rintro pen ties ⟨hp, hs⟩
    refine q _ _ (hp.up (by omega)) (rows_web n0 ?_) (by show n ≤ limit; omega)
    rw [rowsTo_n] at hs
    exact hs.trans List.filter_sublist
  · rintro a pen ties C a0 a1 ⟨hp, hs⟩ k
    refine ⟨by omega, ?_⟩
    have hl := Nat.le_trans hs.length_le (rowsTo_len (n := n) (fun _ _ => true) a0 (Int.le_of_lt a1))
    have hl2 : a.toNat * n.toNat ≤ 64 * 64 := Nat.mul_le_mul (by omega) (by omega)
    refine wFor2_z (by omega) (fun b pen t => POk pen (c + 3 + a.toNat * 64 + b.toNat) ∧ t.Sublist (rowsTo n (fun _ _ => true) a ++ rowTo (fun _ _ => true) a b)) ⟨hp.up (by omega), by rw [rowTo_0]; simpa using hs⟩ ?_ ?_
    · rintro pen t ⟨hp, hs⟩
      refine k _ _ ⟨hp.up (by omega), ?_⟩
      rw [rowsTo_snoc _ a0]; exact hs
    · rintro b pen t C b0 b1' ⟨hp, hs⟩ k
      have hl3 := Nat.le_trans hs.length_le (by rw [List.length_append]; exact Nat.add_le_add_left rowTo_len _)
      have hl4 := rowsTo_len (n := n) (fun _ _ => true) a0 (Int.le_of_lt a1)
      refine ⟨by omega, by omega, ?_, ?_⟩
      · constructor <;> simp <;> omega
      rintro good -
      have yes : rowsTo n (fun _ _ => true) a ++ rowTo (fun _ _ => true) a (b + 1) = rowsTo n (fun _ _ => true) a ++ rowTo (fun _ _ => true) a b ++ [(a, b)] := by rw [rowTo_yes (by omega) rfl, List.append_assoc]
      refine ⟨fun pen _ => POk pen (c + 3 + a.toNat * 64 + b.toNat + 1), ⟨fun _ => ?_, fun _ => hp.up (by omega)⟩, fun pen good hp => ?_⟩
      · exact drawM hp (by omega) (by omega) (by omega) fun pen x hp _ _ => hp
      refine ⟨fun t => t.Sublist (rowsTo n (fun _ _ => true) a ++ rowTo (fun _ _ => true) a (b + 1)), ⟨fun _ => ⟨by omega, ?_⟩, fun _ => ?_⟩, fun t hs => k _ _ ⟨hp.up (by omega), hs⟩⟩
      · rintro _ rfl
        rw [yes]
        exact List.Sublist.append hs (List.Sublist.refl _)
      · rw [yes]
        exact hs.trans (List.sublist_append_left _ _)

def F__law_tweb : FS := fun ts R => ∃ (pen : Pen) (limit : Int) (P : Pen → (Int × (List (Int × Int))) → Prop), ts = [(pen.T), (.fz (D.int limit))] ∧ w__law_tweb pen limit P ∧ ∀ (pen_ : Pen) (r : Int × (List (Int × Int))), P pen_ r → R [some (pen_.T)] ((.fz ((eP D.int (eU (eP D.int D.int))) r)))

def b__law_tweb : DTS := (dSeq (dSet 2 (dCall 2 F__law_tdraw (dALend 0 (dAConsP (dBin addD true (dVar 1) (dConst (.fz (.int 1)))) dNil))))
    (dSeq (dSet 3 (dCall 2 F__law_tdraw (dALend 0 (dAConsP (dConst (.fz (.int 9))) dNil))))
    (dSeq (dSet 4 (dBin addD false (dConst (.fz (.int 1))) (dCall 2 F__law_tdraw (dALend 0 (dAConsP (dConst (.fz (.int 5))) dNil)))))
    (dSeq (dSet 5 (dLst dNil))
    (dSeq (dFor (iRange1 (dACons (dVar 2) dNil)) (gN 6) (dSeq (dFor (iRange2 (dAConsP (dBin addD true (dVar 6) (dConst (.fz (.int 1)))) (dACons (dVar 2) dNil))) (gN 7) (dSeq (dSet 8 (dBin ixD false (dLst (dAConsP (dConst (.fz (.bl false))) (dAConsP (dConst (.fz (.bl true))) (dAConsP (dBin (inD false) true (dBin subD true (dVar 7) (dVar 6)) (dTup (dAConsP (dConst (.fz (.int 1))) (dAConsP (dBin subD true (dVar 2) (dConst (.fz (.int 1)))) dNil)))) (dAConsP (dBin neD true (dBin modD true (dVar 6) (dVar 4)) (dBin modD true (dVar 7) (dVar 4))) dNil))))) (dCB min2D (dACons (dVar 3) (dAConsP (dConst (.fz (.int 3))) dNil)))))
    (dSeq (dCut (dIf (dVal (dBin (cmpI fun i j => decide (j < i)) true (dVar 3) (dConst (.fz (.int 3))))) (dSeq (dSet 8 (dBin (cmpI fun i j => decide (i < j)) true (dCall 2 F__law_tdraw (dALend 0 (dAConsP (dConst (.fz (.int 6))) dNil))) (dVar 4)))
    dNext) dNext))
    (dSeq (dCut (dIf (dVal (dVar 8)) (dSeq (dExpr (dMeth "list" appendN false (dVar 5) (dACons (dTup (dACons (dVar 6) (dACons (dVar 7) dNil))) dNil)))
    dNext) dNext))
    (dSeq (dKill [7, 8]) dNext)))))
    (dSeq (dKill [6]) dNext)))
    (dRet (dTup (dACons (dVar 2) (dAConsP (dCB1 (fun y R => tupleD [y] R) (dVar 5)) dNil)))))))))

set_option maxHeartbeats 4000000 in
theorem law__law_tweb : ∀ ts R, ts.length = 2 → F__law_tweb ts R → b__law_tweb ⟨fun G => R (G.take 1) (.fz .non), retW 1 R⟩ (ts.map some ++ List.replicate ((["pen", "limit", "n", "way", "by", "ties", "a", "b", "good"] : List Str).length - 2) none) := by
  rintro ts R - ⟨pen, limit, P, rfl, h, hR⟩
  unfold w__law_tweb at h
  unfold b__law_tweb
  refine q_env (G2 := [some (pen.T), some (.fz (D.int limit)), none, none, none, none, none, none, none]) rfl ?_
  refine q_set ?_
  refine q_call ?_
  refine a_lend rfl ?_
  refine a_consP (sp_bin (sp_var_fz (i := 1) rfl) rd_fz sp_con rd_fz k_add) fz_fz ?_
  refine a_nil ?_
  refine c_fin1 (fun (p : Pen) => p.T) (fun (x : Int) => (.fz (D.int x))) (fun (pp_ : Pen) => [some (pp_.T), some (.fz (D.int limit)), none, none, none, none, none, none, none]) rfl rfl (fun R hR => ⟨pen, (limit + (1 : Int)), _, rfl, h, hR⟩) (fun _ => rfl) (fun pen1 x h => ?_)
  refine w_set (G' := [some (pen1.T), some (.fz (D.int limit)), some (.fz (D.int x)), none, none, none, none, none, none]) (lt_l rfl) rfl ?_
  refine q_set ?_
  refine q_call ?_
  refine a_lend rfl ?_
  refine a_consP sp_con fz_fz ?_
  refine a_nil ?_
  refine c_fin1 (fun (p : Pen) => p.T) (fun (x : Int) => (.fz (D.int x))) (fun (pp_ : Pen) => [some (pp_.T), some (.fz (D.int limit)), some (.fz (D.int x)), none, none, none, none, none, none]) rfl rfl (fun R hR => ⟨pen1, (9 : Int), _, rfl, h, hR⟩) (fun _ => rfl) (fun pen2 x1 h => ?_)
  refine w_set (G' := [some (pen2.T), some (.fz (D.int limit)), some (.fz (D.int x)), some (.fz (D.int x1)), none, none, none, none, none]) (lt_l rfl) rfl ?_
  refine q_set ?_
  refine q_bin ?_
  refine sp_con _ ?_
  refine w_bin1 fz_fz ?_
  refine q_call ?_
  refine a_lend rfl ?_
  refine a_consP sp_con fz_fz ?_
  refine a_nil ?_
  refine c_fin1 (fun (p : Pen) => p.T) (fun (x : Int) => (.fz (D.int x))) (fun (pp_ : Pen) => [some (pp_.T), some (.fz (D.int limit)), some (.fz (D.int x)), some (.fz (D.int x1)), none, none, none, none, none]) rfl rfl (fun R hR => ⟨pen2, (5 : Int), _, rfl, h, hR⟩) (fun _ => rfl) (fun pen3 x2 h => ?_)
  refine w_bin2 rd_fz k_add ?_
  refine w_set (G' := [some (pen3.T), some (.fz (D.int limit)), some (.fz (D.int x)), some (.fz (D.int x1)), some (.fz (D.int ((1 : Int) + x2))), none, none, none, none]) (lt_l rfl) rfl ?_
  refine p_setB (fun x => (tLs (eP D.int D.int) x)) (G' := fun ties => [some (pen3.T), some (.fz (D.int limit)), some (.fz (D.int x)), some (.fz (D.int x1)), some (.fz (D.int ((1 : Int) + x2))), some (tLs (eP D.int D.int) ties), none, none, none]) h (sp_lst sa_nil rfl (Nat.le_of_ble_eq_true rfl)) (lt_l rfl) (fun _ => rfl) fun ties h => ?_
  obtain ⟨q1, h⟩ := h
  refine q_for2 D.int (fun (pen4 : Pen) (ties1 : List (Int × Int)) => [some (pen4.T), some (.fz (D.int limit)), some (.fz (D.int x)), some (.fz (D.int x1)), some (.fz (D.int ((1 : Int) + x2))), some (tLs (eP D.int D.int) ties1), none, none, none]) (si_range1 (sa_cons (sp_var_fz (i := 2) rfl) fz_fz sa_nil) q1) rfl h (fun pen4 ties1 a P C h hC => ?_) (fun pen4 ties1 h => ?_)
  · refine (sg_name (G' := [some (pen4.T), some (.fz (D.int limit)), some (.fz (D.int x)), some (.fz (D.int x1)), some (.fz (D.int ((1 : Int) + x2))), some (tLs (eP D.int D.int) ties1), some (.fz (D.int a)), none, none]) (lt_l rfl) rfl) _ ?_
    obtain ⟨q2, h⟩ := h
    refine q_for2 D.int (fun (pen5 : Pen) (ties2 : List (Int × Int)) => [some (pen5.T), some (.fz (D.int limit)), some (.fz (D.int x)), some (.fz (D.int x1)), some (.fz (D.int ((1 : Int) + x2))), some (tLs (eP D.int D.int) ties2), some (.fz (D.int a)), none, none]) (si_range2 (sa_consP (sp_bin (sp_var_fz (i := 6) rfl) rd_fz sp_con rd_fz k_add) fz_fz (sa_cons (sp_var_fz (i := 2) rfl) fz_fz sa_nil)) q2) rfl h (fun pen5 ties2 b P C h hC => ?_) (fun pen5 ties2 h => ?_)
    · refine (sg_name (G' := [some (pen5.T), some (.fz (D.int limit)), some (.fz (D.int x)), some (.fz (D.int x1)), some (.fz (D.int ((1 : Int) + x2))), some (tLs (eP D.int D.int) ties2), some (.fz (D.int a)), some (.fz (D.int b)), none]) (lt_l rfl) rfl) _ ?_
      obtain ⟨q3, q4, q5, h⟩ := h
      refine p_setB (fun x => (.fz (D.bl x))) (G' := fun good => [some (pen5.T), some (.fz (D.int limit)), some (.fz (D.int x)), some (.fz (D.int x1)), some (.fz (D.int ((1 : Int) + x2))), some (tLs (eP D.int D.int) ties2), some (.fz (D.int a)), some (.fz (D.int b)), some (.fz (D.bl good))]) h (sp_binF (sp_lst (sa_consP sp_con fz_fz (sa_consP sp_con fz_fz (sa_consP (sp_bin (sp_bin (sp_var_fz (i := 7) rfl) rd_fz (sp_var_fz (i := 6) rfl) rd_fz k_sub) rd_fz (sp_tup (sa_consP sp_con fz_fz (sa_consP (sp_bin (sp_var_fz (i := 2) rfl) rd_fz sp_con rd_fz k_sub) fz_fz sa_nil)) rfl (Nat.le_of_ble_eq_true rfl)) rd_fz (k_inU (a := b - a) (l := ([(1 : Int), x - (1 : Int)] : List Int)) ok_int (Nat.le_of_ble_eq_true rfl))) fz_fz (sa_consP (sp_bin (sp_bin (sp_var_fz (i := 6) rfl) rd_fz (sp_var_fz (i := 4) rfl) rd_fz (k_mod q3)) rd_fz (sp_bin (sp_var_fz (i := 7) rfl) rd_fz (sp_var_fz (i := 4) rfl) rd_fz (k_mod q4)) rd_fz (k_ne (a := a % ((1 : Int) + x2)) (b := b % ((1 : Int) + x2)) ok_int (Nat.le_of_ble_eq_true rfl))) fz_fz sa_nil)))) rfl (Nat.le_of_ble_eq_true rfl)) fz_ls (sp_cb (sa_cons (sp_var_fz (i := 3) rfl) fz_fz (sa_consP sp_con fz_fz sa_nil)) rfl k_min2) rd_fz (k_ixL (e := D.bl) q5)) (lt_l rfl) (fun _ => rfl) fun good h => ?_
      refine q_cut2 (fun (pen6 : Pen) (good1 : Bool) => [some (pen6.T), some (.fz (D.int limit)), some (.fz (D.int x)), some (.fz (D.int x1)), some (.fz (D.int ((1 : Int) + x2))), some (tLs (eP D.int D.int) ties2), some (.fz (D.int a)), some (.fz (D.int b)), some (.fz (D.bl good1))]) h (fun j1 h => ?_) (fun pen6 good1 h => ?_)
      · refine p_if (st_val (sp_bin (sp_var_fz (i := 3) rfl) rd_fz sp_con rd_fz k_gt) rd_fz) (fun hb => ?_) (fun hb => ?_)
        · replace h := h.1 hb
          refine q_set ?_
          refine q_bin ?_
          refine q_call ?_
          refine a_lend rfl ?_
          refine a_consP sp_con fz_fz ?_
          refine a_nil ?_
          refine c_fin1 (fun (p : Pen) => p.T) (fun (x : Int) => (.fz (D.int x))) (fun (pp_ : Pen) => [some (pp_.T), some (.fz (D.int limit)), some (.fz (D.int x)), some (.fz (D.int x1)), some (.fz (D.int ((1 : Int) + x2))), some (tLs (eP D.int D.int) ties2), some (.fz (D.int a)), some (.fz (D.int b)), some (.fz (D.bl good))]) rfl rfl (fun R hR => ⟨pen5, (6 : Int), _, rfl, h, hR⟩) (fun _ => rfl) (fun pen7 x3 h => ?_)
          refine w_bin1 fz_fz ?_
          refine (sp_var_fz (i := 4) rfl) _ ?_
          refine w_bin2 rd_fz k_lt ?_
          refine w_set (G' := [some (pen7.T), some (.fz (D.int limit)), some (.fz (D.int x)), some (.fz (D.int x1)), some (.fz (D.int ((1 : Int) + x2))), some (tLs (eP D.int D.int) ties2), some (.fz (D.int a)), some (.fz (D.int b)), some (.fz (D.bl (decide (x3 < (1 : Int) + x2))))]) (lt_l rfl) rfl ?_
          exact ⟨_, _, h, rfl⟩
        · replace h := h.2 hb
          exact ⟨_, _, h, rfl⟩
      refine q_cut1 (fun (ties3 : List (Int × Int)) => [some (pen6.T), some (.fz (D.int limit)), some (.fz (D.int x)), some (.fz (D.int x1)), some (.fz (D.int ((1 : Int) + x2))), some (tLs (eP D.int D.int) ties3), some (.fz (D.int a)), some (.fz (D.int b)), some (.fz (D.bl good1))]) h (fun j2 h => ?_) (fun ties3 h => ?_)
      · refine p_if (st_val (sp_var_fz (i := 8) rfl) rd_fz) (fun hb => ?_) (fun hb => ?_)
        · replace h := h.1 hb
          obtain ⟨q6, h⟩ := h
          obtain ⟨ties4, e_ties4, h⟩ := h.get
          refine p_app (i := 5) (e := (eP D.int D.int)) (x := (a, b)) rfl (sa_cons (sp_tup (sa_cons (sp_var_fz (i := 6) rfl) fz_fz (sa_cons (sp_var_fz (i := 7) rfl) fz_fz sa_nil)) rfl (Nat.le_of_ble_eq_true rfl)) fz_fz sa_nil) q6 (G' := [some (pen6.T), some (.fz (D.int limit)), some (.fz (D.int x)), some (.fz (D.int x1)), some (.fz (D.int ((1 : Int) + x2))), some (tLs (eP D.int D.int) ties4), some (.fz (D.int a)), some (.fz (D.int b)), some (.fz (D.bl good1))]) (by subst e_ties4; rfl) ?_
          exact ⟨_, h, rfl⟩
        · replace h := h.2 hb
          exact ⟨_, h, rfl⟩
      refine p_kill (G' := [some (pen6.T), some (.fz (D.int limit)), some (.fz (D.int x)), some (.fz (D.int x1)), some (.fz (D.int ((1 : Int) + x2))), some (tLs (eP D.int D.int) ties3), some (.fz (D.int a)), none, none]) rfl ?_
      exact hC _ _ h
    refine p_kill (G' := [some (pen5.T), some (.fz (D.int limit)), some (.fz (D.int x)), some (.fz (D.int x1)), some (.fz (D.int ((1 : Int) + x2))), some (tLs (eP D.int D.int) ties2), none, none, none]) rfl ?_
    exact hC _ _ h
  exact p_ret (sp_tup (sa_cons (sp_var_fz (i := 2) rfl) fz_fz (sa_consP (sp_cb1 (sp_var (i := 5) rfl trivial) (rd_pk rfl rfl) k_tupL) fz_fz sa_nil)) rfl (Nat.le_of_ble_eq_true rfl)) (hR _ _ h)

theorem ok__law_tweb {f : Addr} {fd : FuncData} (Fd : C8.Def K mg "_law_tweb" s__law_tweb f fd) (bd : Binds K fd ["pen", "limit"] []) (h__law_tdraw : Fn P w K mg base 1 "_law_tdraw" 2 1 F__law_tdraw) (T_min : mg "min" = none) (T_range : mg "range" = none) (T_tuple : mg "tuple" = none) : Fn P w K mg base 2 "_law_tweb" 2 1 F__law_tweb := by
  refine fn_mk (body := b__law_tweb) Fd bd sc__law_tweb rfl (by decide) (fun cdv A outer s H E hgd hr => ?_) law__law_tweb
  have nd := sc__law_tweb.nd
  have hu64 := hr.units
  have hu65 := hu65 hr
  have hu1 := hu1 hr
  have hu2 := hu2 hr
  have hu0 := hr.units0
  exact (dss_cons (ds_set (i := 2) nd rfl (.inl rfl) (de_call h__law_tdraw hgd hr (by decide) (by rfl) (da_lend (pv 0) (da_consP (de_bin add_ok (de_var (pv 1)) de_int) da_nil))) (by decide))
    (dss_cons (ds_set (i := 3) nd rfl (.inl rfl) (de_call h__law_tdraw hgd hr (by decide) (by rfl) (da_lend (pv 0) (da_consP de_int da_nil))) (by decide))
    (dss_cons (ds_set (i := 4) nd rfl (.inl rfl) (de_bin add_ok de_int (de_call h__law_tdraw hgd hr (by decide) (by rfl) (da_lend (pv 0) (da_consP de_int da_nil)))) (by decide))
    (dss_cons (ds_set (i := 5) nd rfl (.inl rfl) (de_lst da_nil) (by decide))
    (dss_cons (ds_for PassesOwn.never rfl (di_range1 (by rfl) T_range (da_cons (de_var (pv 2)) da_nil)) (dg_name (i := 6) (pg_name (i := 6) nd rfl (.inl rfl)) (fun _ _ => take_set (by decide))) (dss_cons (ds_for PassesOwn.never rfl (di_range2 (by rfl) T_range (da_consP (de_bin add_ok (de_var (pv 6)) de_int) (da_cons (de_var (pv 2)) da_nil))) (dg_name (i := 7) (pg_name (i := 7) nd rfl (.inl rfl)) (fun _ _ => take_set (by decide))) (dss_cons (ds_set (i := 8) nd rfl (.inl rfl) (de_ix hu1 (de_lst (da_consP de_bl (da_consP de_bl (da_consP (de_cmp (in_ok hu65) rfl (de_bin sub_ok (de_var (pv 7)) (de_var (pv 6))) (de_tup (da_consP de_int (da_consP (de_bin sub_ok (de_var (pv 2)) de_int) da_nil)))) (da_consP (de_cmp (ne_ok hu64) (nomark _) (de_bin mod_ok (de_var (pv 6)) (de_var (pv 4))) (de_bin mod_ok (de_var (pv 7)) (de_var (pv 4)))) da_nil))))) (de_cbN (min2_ok rfl) (by rfl) T_min (by decide +kernel) (da_cons (de_var (pv 3)) (da_consP de_int da_nil))) (fun _ _ => rfl)) (by decide))
    (dss_cons (ds_cut (ds_if (dt_cmp gt_ok (nomark _) (de_var (pv 3)) de_int) (dss_cons (ds_set (i := 8) nd rfl (.inl rfl) (de_cmp lt_ok (nomark _) (de_call h__law_tdraw hgd hr (by decide) (by rfl) (da_lend (pv 0) (da_consP de_int da_nil))) (de_var (pv 4))) (by decide))
    dss_nil) dss_nil))
    (dss_cons (ds_cut (ds_if (dt_val (de_var (pv 8))) (dss_cons (ds_expr (de_meth (by decide) PySem.F.plainAttrs_list PySem.F.slot_list_append PySem.F.type_list_append append_ok (de_var (pv 5)) (da_cons (de_tup (da_cons (de_var (pv 6)) (da_cons (de_var (pv 7)) da_nil))) da_nil)))
    dss_nil) dss_nil))
    (dss_kill [7, 8] dss_nil)))))
    (dss_kill [6] dss_nil)))
    (dss_one (ds_ret (de_tup (da_cons (de_var (pv 2)) (da_consP (de_ct1 tuple_ok (by rfl) T_tuple (by decide +kernel) (de_var (pv 5))) da_nil))))))))))

abbrev s__law_tis_tied : Stmt := topS 11
theorem sc__law_tis_tied : FnScope ["web", "a", "b"] ["web", "a", "b"] (C8.fnScope s__law_tis_tied) := C8.fnScope_by (by decide +kernel)

def w__law_tis_tied (web : Int × (List (Int × Int))) (a : Int) (b : Int) (Q : Bool → Prop) : Prop :=
  Q (inl (min a b, max a b) web.2)

theorem spec__law_tis_tied {w : Web} {a b : Int} {Q : Bool → Prop} (q : Q (tie w a b)) : w__law_tis_tied w a b Q := q

def Fw__law_tis_tied : FS := fun ts R => ∃ (web : Int × (List (Int × Int))) (a : Int) (b : Int) (P : Bool → Prop), ts = [(.fz ((eP D.int (eU (eP D.int D.int))) web)), (.fz (D.int a)), (.fz (D.int b))] ∧ w__law_tis_tied web a b P ∧ ∀ (r : Bool), P  r → R [] ((.fz (D.bl r)))
def F__law_tis_tied : FS := fun ts R => ∃ (web : Int × (List (Int × Int))) (a : Int) (b : Int), ts = [(.fz ((eP D.int (eU (eP D.int D.int))) web)), (.fz (D.int a)), (.fz (D.int b))] ∧ R [] ((.fz (D.bl (tie web a b))))

def b__law_tis_tied : DTS := (dRet (dBin (inD false) true (dTup (dACons (dCB min2D (dACons (dVar 1) (dACons (dVar 2) dNil))) (dACons (dCB max2D (dACons (dVar 1) (dACons (dVar 2) dNil))) dNil))) (dBin ixD true (dVar 0) (dConst (.fz (.int 1))))))

set_option maxHeartbeats 4000000 in
theorem sim__law_tis_tied : ∀ ts R, ts.length = 3 → Fw__law_tis_tied ts R → b__law_tis_tied ⟨fun G => R (G.take 0) (.fz .non), retW 0 R⟩ (ts.map some ++ List.replicate ((["web", "a", "b"] : List Str).length - 3) none) := by
  rintro ts R - ⟨web, a, b, P, rfl, h, hR⟩
  unfold w__law_tis_tied at h
  unfold b__law_tis_tied
  refine q_env (G2 := [some (.fz ((eP D.int (eU (eP D.int D.int))) web)), some (.fz (D.int a)), some (.fz (D.int b))]) rfl ?_
  exact p_ret (sp_bin (sp_tup (sa_cons (sp_cb (sa_cons (sp_var_fz (i := 1) rfl) fz_fz (sa_cons (sp_var_fz (i := 2) rfl) fz_fz sa_nil)) rfl k_min2) fz_fz (sa_cons (sp_cb (sa_cons (sp_var_fz (i := 1) rfl) fz_fz (sa_cons (sp_var_fz (i := 2) rfl) fz_fz sa_nil)) rfl k_max2) fz_fz sa_nil)) rfl (Nat.le_of_ble_eq_true rfl)) rd_fz (sp_bin (sp_var_fz (i := 0) rfl) rd_fz sp_con rd_fz k_ix1) rd_fz (k_inU (a := (min a b, max a b)) (l := web.2) (ok_pair ok_int ok_int) (Nat.le_of_ble_eq_true rfl))) (hR _ h)
theorem law__law_tis_tied : ∀ ts R, ts.length = 3 → F__law_tis_tied ts R → b__law_tis_tied ⟨fun G => R (G.take 0) (.fz .non), retW 0 R⟩ (ts.map some ++ List.replicate ((["web", "a", "b"] : List Str).length - 3) none) := by
  rintro ts R hl ⟨web, a, b, rfl, q⟩
  exact sim__law_tis_tied _ R hl ⟨web, a, b, fun r => r = tie web a b, rfl, spec__law_tis_tied rfl, fun r e => by subst e; exact q⟩

theorem ok__law_tis_tied {f : Addr} {fd : FuncData} (Fd : C8.Def K mg "_law_tis_tied" s__law_tis_tied f fd) (bd : Binds K fd ["web", "a", "b"] []) (T_max : mg "max" = none) (T_min : mg "min" = none) : Fn P w K mg base 1 "_law_tis_tied" 3 0 F__law_tis_tied := by
  refine fn_mk (body := b__law_tis_tied) Fd bd sc__law_tis_tied rfl (by decide) (fun cdv A outer s H E hgd hr => ?_) law__law_tis_tied
  have nd := sc__law_tis_tied.nd
  have hu64 := hr.units
  have hu65 := hu65 hr
  have hu1 := hu1 hr
  have hu2 := hu2 hr
  have hu0 := hr.units0
  exact (dss_one (ds_ret (de_cmp (in_ok hu65) rfl (de_tup (da_cons (de_cbN (min2_ok rfl) (by rfl) T_min (by decide +kernel) (da_cons (de_var (pv 1)) (da_cons (de_var (pv 2)) da_nil))) (da_cons (de_cbN (max2_ok rfl) (by rfl) T_max (by decide +kernel) (da_cons (de_var (pv 1)) (da_cons (de_var (pv 2)) da_nil))) da_nil))) (de_ix hu1 (de_var (pv 0)) de_int (fun _ _ => rfl)))))

abbrev s__law_tis_hueing : Stmt := topS 12
theorem sc__law_tis_hueing : FnScope ["web", "thing", "hue", "tie"] ["web", "thing"] (C8.fnScope s__law_tis_hueing) := C8.fnScope_by (by decide +kernel)

def w__law_tis_hueing (web : Int × (List (Int × Int))) (thing : List Int) (Q : Bool → Prop) : Prop :=
  wIf ((!true) || (!decide ((thing.length : Int) = web.1)))
  (Q false)
  (wFor0 (thing) (fun (hue : Int) nx =>
  wIf ((!true) || (false || (!(decide ((0 : Int) ≤ hue) && decide (hue < web.1)))))
  (Q false)
  (nx))
  (((web.2).length ≤ 10000000) ∧ (∀ tie ∈ web.2, ((InR thing tie.1) ∧ (InR thing tie.2))) ∧ Q (decide (((web.2).filter (fun tie => decide (gi thing tie.1 = gi thing tie.2))).map (fun tie => tie) = ([] : List (Int × Int))))))

theorem spec__law_tis_hueing {web : Web} {thing : List Int} {Q : Bool → Prop} (hl : (thing.length : Int) = web.1) (hr : ∀ x ∈ thing, 0 ≤ x ∧ x < web.1) (h2 : web.2.length ≤ 10000000)
    (ht : ∀ t ∈ web.2, (0 ≤ t.1 ∧ t.1 < web.1) ∧ (0 ≤ t.2 ∧ t.2 < web.1) ∧ gi thing t.1 ≠ gi thing t.2) (q : Q true) : w__law_tis_hueing web thing Q := by
  unfold w__law_tis_hueing
  refine ⟨fun h => by simp [hl] at h, fun _ => ?_⟩
  refine wFor0_inv (fun _ => True) trivial (fun _ => ?_) ?_
  · refine ⟨h2, fun t mt => ⟨inR (ht t mt).1.1 (by have := (ht t mt).1.2; omega), inR (ht t mt).2.1.1 (by have := (ht t mt).2.1.2; omega)⟩, ?_⟩
    rw [List.map_id', List.filter_eq_nil_iff.mpr fun t mt => by simpa using (ht t mt).2.2]
    simpa using q
  · rintro pre x post C e - c
    have hx := hr x (by rw [e]; simp)
    refine ⟨fun h => ?_, fun _ => c trivial⟩
    simp [hx.1, hx.2] at h

def F__law_tis_hueing : FS := fun ts R => ∃ (web : Int × (List (Int × Int))) (thing : List Int) (P : Bool → Prop), ts = [(.fz ((eP D.int (eU (eP D.int D.int))) web)), (.fz ((eU D.int) thing))] ∧ w__law_tis_hueing web thing P ∧ ∀ (r : Bool), P  r → R [] ((.fz (D.bl r)))

def b__law_tis_hueing : DTS := (dSeq (dIf (dOr (dNot (dVal (dCB1 (fun y R => isinstD [y, .opq (.ty "tuple")] R) (dVar 1)))) (dVal (dBin neD true (dCB1 (fun y R => lenD [y] R) (dVar 1)) (dBin ixD true (dVar 0) (dConst (.fz (.int 0))))))) (dRet (dConst (.fz (.bl false)))) dNext)
    (dSeq (dFor (iSeqD (dVar 1)) (gN 2) (dSeq (dIf (dOr (dNot (dVal (dCB1 (fun y R => isinstD [y, .opq (.ty "int")] R) (dVar 2)))) (dOr (dVal (dCB1 (fun y R => isinstD [y, .opq (.ty "bool")] R) (dVar 2))) (dNot (dVal (dChain (fun i j => decide (i ≤ j)) (fun i j => decide (i < j)) (dConst (.fz (.int 0))) (dVar 2) (dBin ixD true (dVar 0) (dConst (.fz (.int 0))))))))) (dRet (dConst (.fz (.bl false)))) dNext)
    (dSeq (dKill [2]) dNext)))
    (dRet (dBin eqD true (dLc (iSeqD (dBin ixD true (dVar 0) (dConst (.fz (.int 1))))) (gN 3) (dVal (dBin eqD true (dBin ixD true (dVar 1) (dBin ixD true (dVar 3) (dConst (.fz (.int 0))))) (dBin ixD true (dVar 1) (dBin ixD true (dVar 3) (dConst (.fz (.int 1))))))) (dVar 3) [3]) (dLst dNil)))))

set_option maxHeartbeats 4000000 in
theorem law__law_tis_hueing : ∀ ts R, ts.length = 2 → F__law_tis_hueing ts R → b__law_tis_hueing ⟨fun G => R (G.take 0) (.fz .non), retW 0 R⟩ (ts.map some ++ List.replicate ((["web", "thing", "hue", "tie"] : List Str).length - 2) none) := by
  rintro ts R - ⟨web, thing, P, rfl, h, hR⟩
  unfold w__law_tis_hueing at h
  unfold b__law_tis_hueing
  refine q_env (G2 := [some (.fz ((eP D.int (eU (eP D.int D.int))) web)), some (.fz ((eU D.int) thing)), none, none]) rfl ?_
  refine q_seq ?_
  refine p_if (st_or (st_not (st_val (sp_cb1 (sp_var_fz (i := 1) rfl) rd_fz (k_isn (d := (eU D.int) thing) isi_tuple_tuple)) rd_fz)) (fun hb => (st_val (sp_bin (sp_cb1 (sp_var_fz (i := 1) rfl) rd_fz (k_lenU (e := D.int))) rd_fz (sp_bin (sp_var_fz (i := 0) rfl) rd_fz sp_con rd_fz k_ix0) rd_fz (k_ne (a := (thing.length : Int)) (b := web.1) ok_int (Nat.le_of_ble_eq_true rfl))) rd_fz))) (fun hb => ?_) (fun hb => ?_)
  · replace h := h.1 hb
    exact p_ret sp_con (hR _ h)
  · replace h := h.2 hb
    refine q_nextS ?_
    refine q_for0 D.int ([some (.fz ((eP D.int (eU (eP D.int D.int))) web)), some (.fz ((eU D.int) thing)), none, none]) (si_seqU (sp_var_fz (i := 1) rfl) fz_fz) rfl h (fun hue P C h hC => ?_) (fun h => ?_)
    · refine (sg_name (G' := [some (.fz ((eP D.int (eU (eP D.int D.int))) web)), some (.fz ((eU D.int) thing)), some (.fz (D.int hue)), none]) (lt_l rfl) rfl) _ ?_
      refine q_seq ?_
      refine p_if (st_or (st_not (st_val (sp_cb1 (sp_var_fz (i := 2) rfl) rd_fz (k_isn (d := D.int hue) isi_int_int)) rd_fz)) (fun hb => (st_or (st_val (sp_cb1 (sp_var_fz (i := 2) rfl) rd_fz (k_isn (d := D.int hue) isi_int_bool)) rd_fz) (fun hb => (st_not (st_val (sp_chain sp_con rd_fz (sp_var_fz (i := 2) rfl) rd_fz (fun hb => (sp_bin (sp_var_fz (i := 0) rfl) rd_fz sp_con rd_fz k_ix0)) (fun _ => rd_fz)) rd_fz)))))) (fun hb => ?_) (fun hb => ?_)
      · replace h := h.1 hb
        exact p_ret sp_con (hR _ h)
      · replace h := h.2 hb
        refine q_nextS ?_
        refine p_kill (G' := [some (.fz ((eP D.int (eU (eP D.int D.int))) web)), some (.fz ((eU D.int) thing)), none, none]) rfl ?_
        exact hC h
    obtain ⟨q1, q4, h⟩ := h
    exact p_ret (sp_bin (sp_lc (eP D.int D.int) (fun tie => decide (gi thing tie.1 = gi thing tie.2)) (fun tie => tie) (eP D.int D.int) (fun tie => [some (.fz ((eP D.int (eU (eP D.int D.int))) web)), some (.fz ((eU D.int) thing)), none, some (.fz ((eP D.int D.int) tie))]) (si_seqU (sp_bin (sp_var_fz (i := 0) rfl) rd_fz sp_con rd_fz k_ix1) fz_fz) q1 (fun tie hx => (sg_name (G' := [some (.fz ((eP D.int (eU (eP D.int D.int))) web)), some (.fz ((eU D.int) thing)), none, some (.fz ((eP D.int D.int) tie))]) (lt_l rfl) rfl)) (fun tie hx => (have ⟨q2, q3⟩ := (q4 tie hx); (st_val (sp_bin (sp_bin (sp_var_fz (i := 1) rfl) rd_fz (sp_bin (sp_var_fz (i := 3) rfl) rd_fz sp_con rd_fz k_ix0) rd_fz (k_ixU (e := D.int) q2)) rd_fz (sp_bin (sp_var_fz (i := 1) rfl) rd_fz (sp_bin (sp_var_fz (i := 3) rfl) rd_fz sp_con rd_fz k_ix1) rd_fz (k_ixU (e := D.int) q3)) rd_fz (k_eq (a := gi thing tie.1) (b := gi thing tie.2) ok_int (Nat.le_of_ble_eq_true rfl))) rd_fz))) (fun tie hx hp => ⟨_, (sp_var_fz (i := 3) rfl), fz_fz⟩) (fun _ => rfl) rfl) rd_ls (sp_lst sa_nil rfl (Nat.le_of_ble_eq_true rfl)) rd_ls (k_eq (a := ((web.2).filter (fun tie => decide (gi thing tie.1 = gi thing tie.2))).map (fun tie => tie)) (b := ([] : List (Int × Int))) (ok_L (ok_pair ok_int ok_int)) (Nat.le_of_ble_eq_true rfl))) (hR _ h)

theorem ok__law_tis_hueing {f : Addr} {fd : FuncData} (Fd : C8.Def K mg "_law_tis_hueing" s__law_tis_hueing f fd) (bd : Binds K fd ["web", "thing"] []) (T_bool : mg "bool" = none) (T_int : mg "int" = none) (T_isinstance : mg "isinstance" = none) (T_len : mg "len" = none) (T_tuple : mg "tuple" = none) : Fn P w K mg base 1 "_law_tis_hueing" 2 0 F__law_tis_hueing := by
  refine fn_mk (body := b__law_tis_hueing) Fd bd sc__law_tis_hueing rfl (by decide) (fun cdv A outer s H E hgd hr => ?_) law__law_tis_hueing
  have nd := sc__law_tis_hueing.nd
  have hu64 := hr.units
  have hu65 := hu65 hr
  have hu1 := hu1 hr
  have hu2 := hu2 hr
  have hu0 := hr.units0
  exact (dss_cons (ds_if (DW.dt (dw_or (dt_not (dt_val (de_cb1c isinst_ok (by rfl) T_isinstance (by decide +kernel) (de_var (pv 1)) (pe_bltn (v := .ty "tuple") (by rfl) T_tuple (by decide +kernel) rfl) (fun _ => .opq)))) (dw_or1 (dt_cmp (ne_ok hu64) (nomark _) (de_cb1 len_ok (by rfl) T_len (by decide +kernel) (de_var (pv 1))) (de_ix hu1 (de_var (pv 0)) de_int (fun _ _ => rfl)))))) (dss_one (ds_ret de_bl)) dss_nil)
    (dss_cons (ds_for PassesOwn.never rfl (di_seq (de_var (pv 1))) (dg_name (i := 2) (pg_name (i := 2) nd rfl (.inl rfl)) (fun _ _ => take_set (by decide))) (dss_cons (ds_if (DW.dt (dw_or (dt_not (dt_val (de_cb1c isinst_ok (by rfl) T_isinstance (by decide +kernel) (de_var (pv 2)) (pe_bltn (v := .ty "int") (by rfl) T_int (by decide +kernel) rfl) (fun _ => .opq)))) (dw_or (dt_val (de_cb1c isinst_ok (by rfl) T_isinstance (by decide +kernel) (de_var (pv 2)) (pe_bltn (v := .ty "bool") (by rfl) T_bool (by decide +kernel) rfl) (fun _ => .opq))) (dw_or1 (dt_not (dt_chain op_le op_lt de_int (de_var (pv 2)) (de_ix hu1 (de_var (pv 0)) de_int (fun _ _ => rfl)))))))) (dss_one (ds_ret de_bl)) dss_nil)
    (dss_kill [2] dss_nil)))
    (dss_one (ds_ret (de_cmp (eq_ok hu64) (nomark _) (de_lc (own := [("tie", 3)]) rfl nd (di_seq (de_ix hu1 (de_var (pv 0)) de_int (fun _ _ => rfl))) (blkOk_by (N := ["web", "thing", "hue", "tie"]) (sc := C8.fnScope s__law_tis_hueing) (by decide +kernel)) (fun _ _ _ _ _ => (dg_name (i := 3) (pg_name (i := 3) nd rfl (by first | exact .inl rfl | exact .inr rfl)) (fun σ x => wipe_set x (by decide)))) (fun _ _ _ _ _ => (dts_one (dt_cmp (eq_ok hu64) (nomark _) (de_ix hu1 (de_var (pv 1)) (de_ix hu1 (de_var (pv 3)) de_int (fun _ _ => rfl)) (fun _ _ => rfl)) (de_ix hu1 (de_var (pv 1)) (de_ix hu1 (de_var (pv 3)) de_int (fun _ _ => rfl)) (fun _ _ => rfl))))) (fun _ _ _ _ _ => (de_var (pv 3)))) (de_lst da_nil))))))

abbrev s__law_tcan : Stmt := topS 13
theorem sc__law_tcan : FnScope ["web", "many", "ways", "place", "tied", "longer", "way", "hue", "other"] ["web", "many"] (C8.fnScope s__law_tcan) := C8.fnScope_by (by decide +kernel)

def w__law_tcan (web : Int × (List (Int × Int))) (many : Int) (Q : Bool → Prop) : Prop :=
  bnd ([([] : List Int)]) fun ways =>
  (-(2 ^ 62) ≤ web.1 ∧ web.1 < 2 ^ 62) ∧ wFor1 (irange 0 web.1) ways (fun ways2 (place1 : Int) nx =>
  (-(2 ^ 62) ≤ place1 ∧ place1 < 2 ^ 62) ∧ ((irange 0 place1).length ≤ 10000000) ∧ bnd (((irange 0 place1).filter (fun other11 => tie web place1 other11)).map (fun other11 => other11)) fun tied2 =>
  bnd (([] : List (List Int))) fun longer37 =>
  wFor1 (ways2) longer37 (fun longer45 (way7 : List Int) nx =>
  (way7.length ≤ 4000) ∧ (-(2 ^ 62) ≤ min many (((ddI way7).length : Int) + (1 : Int)) ∧ min many (((ddI way7).length : Int) + (1 : Int)) < 2 ^ 62) ∧ wFor1 (irange 0 (min many (((ddI way7).length : Int) + (1 : Int)))) longer45 (fun longer46 (hue11 : Int) nx =>
  wJ1 (fun j12 =>
  ((tied2).length ≤ 10000000) ∧ (∀ other14 ∈ tied2, (InR way7 other14)) ∧ wIf (!inl hue11 ((tied2).map (fun other14 => gi way7 other14)))
  ((way7.length + ([hue11] : List Int).length ≤ 10000000) ∧ (longer46.length < 10000000) ∧ bnd (longer46 ++ [way7 ++ ([hue11] : List Int)]) fun longer48 =>
  j12 longer48)
  (j12 longer46))
  (fun (longer47 : List (List Int)) => nx longer47))
  (fun (longer46 : List (List Int)) => nx longer46))
  (fun (longer45 : List (List Int)) => nx longer45))
  (fun (ways2 : List (List Int)) => Q (!decide (ways2 = ([] : List (List Int)))))

def fac : Nat → Nat
  | 0 => 1
  | n + 1 => fac n * (n + 1)
theorem fac_le : ∀ n : Nat, n ≤ 8 → fac n ≤ 40320 := by decide
structure WayI (w : Web) (m : Int) (p : Nat) (way : List Int) : Prop where
  len : way.length = p
  hue : ∀ x ∈ way, 0 ≤ x ∧ x < m
  pr : ∀ a b, 0 ≤ a → a < b → b < (p : Int) → tie w a b = true → gi way a ≠ gi way b
theorem WayI.snoc {w : Web} {m : Int} {p : Nat} {way : List Int} (I : WayI w m p way) {x : Int} (x0 : 0 ≤ x) (x1 : x < m) (h : ∀ o, 0 ≤ o → o < (p : Int) → tie w p o = true → gi way o ≠ x) : WayI w m (p + 1) (way ++ [x]) := by
  have hl := I.len
  refine ⟨by rw [List.length_append, hl]; rfl, fun y my => ?_, fun a b a0 ab bl t => ?_⟩
  · rcases List.mem_append.mp my with my | my
    · exact I.hue y my
    · rw [List.mem_singleton.mp my]; exact ⟨x0, x1⟩
  · by_cases e : b = (p : Int)
    · subst e
      rw [gi_append_left a0 (by omega), gi_append_right (by omega) (by simp; omega)]
      rw [show (p : Int) - (way.length : Int) = ((0 : Nat) : Int) by omega, gi_nat (by simp)]
      exact h a a0 ab (by rw [tie_comm]; exact t)
    · rw [gi_append_left a0 (by omega), gi_append_left (by omega) (by omega)]
      exact I.pr a b a0 ab (by omega) t
theorem spec__law_tcan {w : Web} {m : Int} {Q : Bool → Prop} (hw : IsWeb w) (hn : w.1 ≤ 8) (m0 : 0 ≤ m) (m1 : m ≤ 100) (no : ∀ g, RightH w g → (∀ x ∈ g, 0 ≤ x ∧ x < m) → False) (q : Q false) : w__law_tcan w m Q := by
  unfold w__law_tcan
  have h0 := hw.n0
  rintro _ rfl
  refine ⟨by omega, ?_⟩
  refine wFor1_z h0 (fun p ways => ways.length ≤ fac p.toNat ∧ ∀ way ∈ ways, WayI w m p.toNat way) ⟨Nat.le_refl _, fun way mw => by
    rw [List.mem_singleton.mp mw]
    exact ⟨rfl, (fun _ m => nomatch m), fun a b a0 ab bl => by simp at bl; omega⟩⟩ ?_ ?_
  · rintro ways ⟨_, hW⟩
    have : ways = [] := List.eq_nil_iff_forall_not_mem.mpr fun way mw => by
      have I := hW way mw
      have hl := I.len
      exact no way (RightH.of_tie hw (by omega) fun a b a0 ab b1 t => I.pr a b a0 ab (by omega) t) I.hue
    rw [this]; exact q
  · rintro p ways C p0 p1 ⟨hl, hW⟩ c
    have fp := fac_le p.toNat (by omega)
    refine ⟨by omega, by rw [irange_length]; omega, ?_⟩
    rintro _ rfl _ rfl
    refine wFor1_inv (fun pre L => L.length ≤ pre.length * (p.toNat + 1) ∧ ∀ way ∈ L, WayI w m (p.toNat + 1) way) ⟨by simp, (fun _ m => nomatch m)⟩ ?_ ?_
    · rintro L ⟨hL, hI⟩
      refine c _ ⟨?_, ?_⟩
      · rw [show (p + 1).toNat = p.toNat + 1 by omega]
        show L.length ≤ fac p.toNat * (p.toNat + 1)
        exact Nat.le_trans hL (Nat.mul_le_mul_right _ hl)
      · rw [show (p + 1).toNat = p.toNat + 1 by omega]; exact hI
    · rintro pre way post L C2 e ⟨hL, hI⟩ c2
      have I := hW way (by rw [e]; simp)
      have wl := I.len
      have dl := dd_sub (g := way) (h := way) fun _ m => m
      have dd : (ddI way).length ≤ way.length := nodup_sub_len _ _ (ddI_nodup way) fun x mx => mem_ddI.mp mx
      have prl : pre.length ≤ ways.length := by rw [e]; simp
      have pl : pre.length * (p.toNat + 1) ≤ 40320 * 9 := Nat.mul_le_mul (by omega) (by omega)
      refine ⟨by omega, by omega, ?_⟩
      have hi : 0 ≤ min m (((ddI way).length : Int) + 1) := by omega
      refine wFor1_z hi (fun x L => L.length ≤ pre.length * (p.toNat + 1) + x.toNat ∧ ∀ way ∈ L, WayI w m (p.toNat + 1) way) ⟨by omega, hI⟩ ?_ ?_
      · rintro L ⟨hL, hI⟩
        refine c2 _ ⟨?_, hI⟩
        rw [List.length_append, Nat.add_mul]
        simp; omega
      · rintro x L C3 x0 x1 ⟨hL, hI⟩ c3
        refine ⟨fun L => L.length ≤ pre.length * (p.toNat + 1) + (x + 1).toNat ∧ ∀ way ∈ L, WayI w m (p.toNat + 1) way, ?_, fun L h => c3 _ h⟩
        have fl := List.length_filter_le (fun o => tie w p o) (irange 0 p)
        rw [irange_length] at fl
        refine ⟨by rw [List.length_map]; omega, fun o mo => ?_, fun hb => ?_, fun _ => ⟨by omega, hI⟩⟩
        · rw [List.map_id'] at mo
          have := mem_irange.mp (List.mem_filter.mp mo).1
          exact inR this.1 (by omega)
        · refine ⟨by simp; omega, by omega, ?_⟩
          rintro _ rfl
          refine ⟨by rw [List.length_append]; simp; omega, fun z mz => ?_⟩
          rcases List.mem_append.mp mz with mz | mz
          · exact hI z mz
          · rw [List.mem_singleton.mp mz]
            refine I.snoc x0 (by omega) fun o o0 o1 t ez => ?_
            rw [Bool.not_eq_true', Bool.eq_false_iff, ne_eq, inl_iff] at hb
            refine hb (List.mem_map.mpr ⟨o, ?_, ez⟩)
            rw [List.map_id']
            exact List.mem_filter.mpr ⟨mem_irange.mpr ⟨o0, by omega⟩, by rwa [show ((p.toNat : Nat) : Int) = p by omega] at t⟩

def F__law_tcan : FS := fun ts R => ∃ (web : Int × (List (Int × Int))) (many : Int) (P : Bool → Prop), ts = [(.fz ((eP D.int (eU (eP D.int D.int))) web)), (.fz (D.int many))] ∧ w__law_tcan web many P ∧ ∀ (r : Bool), P  r → R [] ((.fz (D.bl r)))

def b__law_tcan : DTS := (dSeq (dSet 2 (dLst (dAConsP (dTup dNil) dNil)))
    (dSeq (dFrz 2) (dSeq (dFor (iRange1 (dAConsP (dBin ixD true (dVar 0) (dConst (.fz (.int 0)))) dNil)) (gN 3) (dSeq (dSet 4 (dLc (iRange1 (dACons (dVar 3) dNil)) (gN 8) (dVal (dCall 3 F__law_tis_tied (dACons (dVar 0) (dACons (dVar 3) (dACons (dVar 8) dNil))))) (dVar 8) [8]))
    (dSeq (dSet 5 (dLst dNil))
    (dSeq (dFrz 4) (dSeq (dFor (iSeqD (dVar 2)) (gN 6) (dSeq (dFor (iRange1 (dACons (dCB min2D (dACons (dVar 1) (dAConsP (dBin addD true (dLenSet (dVar 6)) (dConst (.fz (.int 1)))) dNil))) dNil)) (gN 7) (dSeq (dCut (dIf (dVal (dBin (inD true) false (dVar 7) (dLc (iSeqD (dVar 4)) (gN 8) dYes (dBin ixD true (dVar 6) (dVar 8)) [8]))) (dSeq (dExpr (dMeth "list" appendN false (dVar 5) (dACons (dBin addD false (dVar 6) (dTup (dACons (dVar 7) dNil))) dNil)))
    dNext) dNext))
    (dSeq (dKill [7]) dNext)))
    (dSeq (dKill [6]) dNext)))
    (dSeq (dFrz 5) (dSeq (dSet 2 (dVar 5))
    (dSeq (dKill [3, 4, 5]) dNext))))))))
    (dRet (dBin neD true (dVar 2) (dLst dNil))))))

set_option maxHeartbeats 4000000 in
theorem law__law_tcan : ∀ ts R, ts.length = 2 → F__law_tcan ts R → b__law_tcan ⟨fun G => R (G.take 0) (.fz .non), retW 0 R⟩ (ts.map some ++ List.replicate ((["web", "many", "ways", "place", "tied", "longer", "way", "hue", "other"] : List Str).length - 2) none) := by
  rintro ts R - ⟨web, many, P, rfl, h, hR⟩
  unfold w__law_tcan at h
  unfold b__law_tcan
  refine q_env (G2 := [some (.fz ((eP D.int (eU (eP D.int D.int))) web)), some (.fz (D.int many)), none, none, none, none, none, none, none]) rfl ?_
  refine p_setB (fun x => (tLs (eU D.int) x)) (G' := fun ways => [some (.fz ((eP D.int (eU (eP D.int D.int))) web)), some (.fz (D.int many)), some (tLs (eU D.int) ways), none, none, none, none, none, none]) h (sp_lst (sa_consP (sp_tup sa_nil rfl (Nat.le_of_ble_eq_true rfl)) fz_fz sa_nil) rfl (Nat.le_of_ble_eq_true rfl)) (lt_l rfl) (fun _ => rfl) fun ways h => ?_
  refine p_frz (i := 2) (G' := [some (.fz ((eP D.int (eU (eP D.int D.int))) web)), some (.fz (D.int many)), some (.fz ((eL (eU D.int)) ways)), none, none, none, none, none, none]) rfl rfl rfl ?_
  obtain ⟨q69, h⟩ := h
  refine q_for1 D.int (fun (ways2 : List (List Int)) => [some (.fz ((eP D.int (eU (eP D.int D.int))) web)), some (.fz (D.int many)), some (.fz ((eL (eU D.int)) ways2)), none, none, none, none, none, none]) (si_range1 (sa_consP (sp_bin (sp_var_fz (i := 0) rfl) rd_fz sp_con rd_fz k_ix0) fz_fz sa_nil) q69) rfl h (fun ways2 place1 P C h hC => ?_) (fun ways2 h => ?_)
  · refine (sg_name (G' := [some (.fz ((eP D.int (eU (eP D.int D.int))) web)), some (.fz (D.int many)), some (.fz ((eL (eU D.int)) ways2)), some (.fz (D.int place1)), none, none, none, none, none]) (lt_l rfl) rfl) _ ?_
    obtain ⟨q70, q71, h⟩ := h
    refine p_setB (fun x => (tLs D.int x)) (G' := fun tied2 => [some (.fz ((eP D.int (eU (eP D.int D.int))) web)), some (.fz (D.int many)), some (.fz ((eL (eU D.int)) ways2)), some (.fz (D.int place1)), some (tLs D.int tied2), none, none, none, none]) h (sp_lc D.int (fun other11 => tie web place1 other11) (fun other11 => other11) D.int (fun other11 => [some (.fz ((eP D.int (eU (eP D.int D.int))) web)), some (.fz (D.int many)), some (.fz ((eL (eU D.int)) ways2)), some (.fz (D.int place1)), none, none, none, none, some (.fz (D.int other11))]) (si_range1 (sa_cons (sp_var_fz (i := 3) rfl) fz_fz sa_nil) q70) q71 (fun other11 hx => (sg_name (G' := [some (.fz ((eP D.int (eU (eP D.int D.int))) web)), some (.fz (D.int many)), some (.fz ((eL (eU D.int)) ways2)), some (.fz (D.int place1)), none, none, none, none, some (.fz (D.int other11))]) (lt_l rfl) rfl)) (fun other11 hx => (st_val (sp_call (sa_cons (sp_var_fz (i := 0) rfl) fz_fz (sa_cons (sp_var_fz (i := 3) rfl) fz_fz (sa_cons (sp_var_fz (i := 8) rfl) fz_fz sa_nil))) rfl rfl (fun R hR => ⟨web, place1, other11, rfl, hR⟩)) rd_fz)) (fun other11 hx hp => ⟨_, (sp_var_fz (i := 8) rfl), fz_fz⟩) (fun _ => rfl) rfl) (lt_l rfl) (fun _ => rfl) fun tied2 h => ?_
    refine p_setB (fun x => (tLs (eU D.int) x)) (G' := fun longer37 => [some (.fz ((eP D.int (eU (eP D.int D.int))) web)), some (.fz (D.int many)), some (.fz ((eL (eU D.int)) ways2)), some (.fz (D.int place1)), some (tLs D.int tied2), some (tLs (eU D.int) longer37), none, none, none]) h (sp_lst sa_nil rfl (Nat.le_of_ble_eq_true rfl)) (lt_l rfl) (fun _ => rfl) fun longer37 h => ?_
    refine p_frz (i := 4) (G' := [some (.fz ((eP D.int (eU (eP D.int D.int))) web)), some (.fz (D.int many)), some (.fz ((eL (eU D.int)) ways2)), some (.fz (D.int place1)), some (.fz ((eL D.int) tied2)), some (tLs (eU D.int) longer37), none, none, none]) rfl rfl rfl ?_
    refine q_for1 (eU D.int) (fun (longer45 : List (List Int)) => [some (.fz ((eP D.int (eU (eP D.int D.int))) web)), some (.fz (D.int many)), some (.fz ((eL (eU D.int)) ways2)), some (.fz (D.int place1)), some (.fz ((eL D.int) tied2)), some (tLs (eU D.int) longer45), none, none, none]) (si_seqL (sp_var_fz (i := 2) rfl) fz_fz) rfl h (fun longer45 way7 P C h hC => ?_) (fun longer45 h => ?_)
    · refine (sg_name (G' := [some (.fz ((eP D.int (eU (eP D.int D.int))) web)), some (.fz (D.int many)), some (.fz ((eL (eU D.int)) ways2)), some (.fz (D.int place1)), some (.fz ((eL D.int) tied2)), some (tLs (eU D.int) longer45), some (.fz ((eU D.int) way7)), none, none]) (lt_l rfl) rfl) _ ?_
      obtain ⟨q86, q87, h⟩ := h
      refine q_for1 D.int (fun (longer46 : List (List Int)) => [some (.fz ((eP D.int (eU (eP D.int D.int))) web)), some (.fz (D.int many)), some (.fz ((eL (eU D.int)) ways2)), some (.fz (D.int place1)), some (.fz ((eL D.int) tied2)), some (tLs (eU D.int) longer46), some (.fz ((eU D.int) way7)), none, none]) (si_range1 (sa_cons (sp_cb (sa_cons (sp_var_fz (i := 1) rfl) fz_fz (sa_consP (sp_bin (sp_lenSet (sp_var_fz (i := 6) rfl) rd_fz q86) rd_fz sp_con rd_fz k_add) fz_fz sa_nil)) rfl k_min2) fz_fz sa_nil) q87) rfl h (fun longer46 hue11 P C h hC => ?_) (fun longer46 h => ?_)
      · refine (sg_name (G' := [some (.fz ((eP D.int (eU (eP D.int D.int))) web)), some (.fz (D.int many)), some (.fz ((eL (eU D.int)) ways2)), some (.fz (D.int place1)), some (.fz ((eL D.int) tied2)), some (tLs (eU D.int) longer46), some (.fz ((eU D.int) way7)), some (.fz (D.int hue11)), none]) (lt_l rfl) rfl) _ ?_
        refine q_cut1 (fun (longer47 : List (List Int)) => [some (.fz ((eP D.int (eU (eP D.int D.int))) web)), some (.fz (D.int many)), some (.fz ((eL (eU D.int)) ways2)), some (.fz (D.int place1)), some (.fz ((eL D.int) tied2)), some (tLs (eU D.int) longer47), some (.fz ((eU D.int) way7)), some (.fz (D.int hue11)), none]) h (fun j12 h => ?_) (fun longer47 h => ?_)
        · obtain ⟨q88, q90, h⟩ := h
          refine p_if (st_val (sp_binF (sp_var_fz (i := 7) rfl) fz_fz (sp_lc0 D.int (fun other14 => gi way7 other14) D.int (fun other14 => [some (.fz ((eP D.int (eU (eP D.int D.int))) web)), some (.fz (D.int many)), some (.fz ((eL (eU D.int)) ways2)), some (.fz (D.int place1)), some (.fz ((eL D.int) tied2)), some (tLs (eU D.int) longer46), some (.fz ((eU D.int) way7)), some (.fz (D.int hue11)), some (.fz (D.int other14))]) (si_seqL (sp_var_fz (i := 4) rfl) fz_fz) q88 (fun other14 hx => (sg_name (G' := [some (.fz ((eP D.int (eU (eP D.int D.int))) web)), some (.fz (D.int many)), some (.fz ((eL (eU D.int)) ways2)), some (.fz (D.int place1)), some (.fz ((eL D.int) tied2)), some (tLs (eU D.int) longer46), some (.fz ((eU D.int) way7)), some (.fz (D.int hue11)), some (.fz (D.int other14))]) (lt_l rfl) rfl)) (fun other14 hx => (have q89 := q90 other14 hx; ⟨_, (sp_bin (sp_var_fz (i := 6) rfl) rd_fz (sp_var_fz (i := 8) rfl) rd_fz (k_ixU (e := D.int) q89)), fz_fz⟩)) (fun _ => rfl) rfl) rd_ls (k_ninL (a := hue11) (l := (tied2).map (fun other14 => gi way7 other14)) ok_int (Nat.le_of_ble_eq_true rfl))) rd_fz) (fun hb => ?_) (fun hb => ?_)
          · replace h := h.1 hb
            obtain ⟨q91, q92, h⟩ := h
            obtain ⟨longer48, e_longer48, h⟩ := h.get
            refine p_app (i := 5) (e := (eU D.int)) (x := way7 ++ ([hue11] : List Int)) rfl (sa_cons (sp_binF (sp_var_fz (i := 6) rfl) fz_fz (sp_tup (sa_cons (sp_var_fz (i := 7) rfl) fz_fz sa_nil) rfl (Nat.le_of_ble_eq_true rfl)) rd_fz (k_catU (e := D.int) q91)) fz_fz sa_nil) q92 (G' := [some (.fz ((eP D.int (eU (eP D.int D.int))) web)), some (.fz (D.int many)), some (.fz ((eL (eU D.int)) ways2)), some (.fz (D.int place1)), some (.fz ((eL D.int) tied2)), some (tLs (eU D.int) longer48), some (.fz ((eU D.int) way7)), some (.fz (D.int hue11)), none]) (by subst e_longer48; rfl) ?_
            exact ⟨_, h, rfl⟩
          · replace h := h.2 hb
            exact ⟨_, h, rfl⟩
        refine p_kill (G' := [some (.fz ((eP D.int (eU (eP D.int D.int))) web)), some (.fz (D.int many)), some (.fz ((eL (eU D.int)) ways2)), some (.fz (D.int place1)), some (.fz ((eL D.int) tied2)), some (tLs (eU D.int) longer47), some (.fz ((eU D.int) way7)), none, none]) rfl ?_
        exact hC _ h
      refine p_kill (G' := [some (.fz ((eP D.int (eU (eP D.int D.int))) web)), some (.fz (D.int many)), some (.fz ((eL (eU D.int)) ways2)), some (.fz (D.int place1)), some (.fz ((eL D.int) tied2)), some (tLs (eU D.int) longer46), none, none, none]) rfl ?_
      exact hC _ h
    refine p_frz (i := 5) (G' := [some (.fz ((eP D.int (eU (eP D.int D.int))) web)), some (.fz (D.int many)), some (.fz ((eL (eU D.int)) ways2)), some (.fz (D.int place1)), some (.fz ((eL D.int) tied2)), some (.fz ((eL (eU D.int)) longer45)), none, none, none]) rfl rfl rfl ?_
    refine p_set (G' := [some (.fz ((eP D.int (eU (eP D.int D.int))) web)), some (.fz (D.int many)), some (.fz ((eL (eU D.int)) longer45)), some (.fz (D.int place1)), some (.fz ((eL D.int) tied2)), some (.fz ((eL (eU D.int)) longer45)), none, none, none]) (sp_var_fz (i := 5) rfl) (lt_l rfl) rfl ?_
    refine p_kill (G' := [some (.fz ((eP D.int (eU (eP D.int D.int))) web)), some (.fz (D.int many)), some (.fz ((eL (eU D.int)) longer45)), none, none, none, none, none, none]) rfl ?_
    exact hC _ h
  exact p_ret (sp_bin (sp_var_fz (i := 2) rfl) rd_fz (sp_lst sa_nil rfl (Nat.le_of_ble_eq_true rfl)) rd_ls (k_ne (a := ways2) (b := ([] : List (List Int))) (ok_L (ok_U ok_int)) (Nat.le_of_ble_eq_true rfl))) (hR _ h)

theorem ok__law_tcan {f : Addr} {fd : FuncData} (Fd : C8.Def K mg "_law_tcan" s__law_tcan f fd) (bd : Binds K fd ["web", "many"] []) (h__law_tis_tied : Fn P w K mg base 1 "_law_tis_tied" 3 0 F__law_tis_tied) (T_len : mg "len" = none) (T_min : mg "min" = none) (T_range : mg "range" = none) (T_set : mg "set" = none) : Fn P w K mg base 2 "_law_tcan" 2 0 F__law_tcan := by
  refine fn_mk (body := b__law_tcan) Fd bd sc__law_tcan rfl (by decide) (fun cdv A outer s H E hgd hr => ?_) law__law_tcan
  have nd := sc__law_tcan.nd
  have hu64 := hr.units
  have hu65 := hu65 hr
  have hu1 := hu1 hr
  have hu2 := hu2 hr
  have hu0 := hr.units0
  exact (dss_cons (ds_set (i := 2) nd rfl (.inl rfl) (de_lst (da_consP (de_tup da_nil) da_nil)) (by decide))
    (dss_frz 2 (dss_cons (ds_for PassesOwn.never rfl (di_range1 (by rfl) T_range (da_consP (de_ix hu1 (de_var (pv 0)) de_int (fun _ _ => rfl)) da_nil)) (dg_name (i := 3) (pg_name (i := 3) nd rfl (.inr rfl)) (fun _ _ => take_set (by decide))) (dss_cons (ds_setLc (i := 4) (own := [("other", 8)]) rfl nd rfl rfl (sw_true rfl rfl rfl (by decide +kernel)) (by decide) (di_range1 (by rfl) T_range (da_cons (de_var (pv 3)) da_nil)) (blkOk_by (N := ["web", "many", "ways", "place", "tied", "longer", "way", "hue", "other"]) (sc := C8.fnScope s__law_tcan) (by decide +kernel)) (fun _ _ _ _ _ => (dg_name (i := 8) (pg_name (i := 8) nd rfl (by first | exact .inl rfl | exact .inr rfl)) (fun σ x => wipe_set x (by decide)))) (fun _ _ _ _ _ => (dts_one (dt_val (de_call h__law_tis_tied hgd hr (by decide) (by rfl) (da_cons (de_var (pv 0)) (da_cons (de_var (pv 3)) (da_cons (de_var (pv 8)) da_nil))))))) (fun _ _ _ _ _ => (de_var (pv 8))))
    (dss_cons (ds_set (i := 5) nd rfl (.inl rfl) (de_lst da_nil) (by decide))
    (dss_frz 4 (dss_cons (ds_for PassesOwn.never rfl (di_seq (de_var (pv 2))) (dg_name (i := 6) (pg_name (i := 6) nd rfl (.inr rfl)) (fun _ _ => take_set (by decide))) (dss_cons (ds_for PassesOwn.never rfl (di_range1 (by rfl) T_range (da_cons (de_cbN (min2_ok rfl) (by rfl) T_min (by decide +kernel) (da_cons (de_var (pv 1)) (da_consP (de_bin add_ok (de_lenSet (by rfl) T_len (by rfl) T_set rfl (de_var (pv 6))) de_int) da_nil))) da_nil)) (dg_name (i := 7) (pg_name (i := 7) nd rfl (.inl rfl)) (fun _ _ => take_set (by decide))) (dss_cons (ds_cut (ds_if (dt_cmp (notin_ok hu65) rfl (de_var (pv 7)) (de_lc (own := [("other", 8)]) rfl nd (di_seq (de_var (pv 4))) (blkOk_by (N := ["web", "many", "ways", "place", "tied", "longer", "way", "hue", "other"]) (sc := C8.fnScope s__law_tcan) (by decide +kernel)) (fun _ _ _ _ _ => (dg_name (i := 8) (pg_name (i := 8) nd rfl (by first | exact .inl rfl | exact .inr rfl)) (fun σ x => wipe_set x (by decide)))) (fun _ _ _ _ _ => dts_nil) (fun _ _ _ _ _ => (de_ix hu1 (de_var (pv 6)) (de_var (pv 8)) (fun _ _ => rfl))))) (dss_cons (ds_expr (de_meth (by decide) PySem.F.plainAttrs_list PySem.F.slot_list_append PySem.F.type_list_append append_ok (de_var (pv 5)) (da_cons (de_bin add_ok (de_var (pv 6)) (de_tup (da_cons (de_var (pv 7)) da_nil))) da_nil)))
    dss_nil) dss_nil))
    (dss_kill [7] dss_nil)))
    (dss_kill [6] dss_nil)))
    (dss_frz 5 (dss_cons (ds_set (i := 2) nd rfl (.inl rfl) (de_var (pv 5)) (by decide))
    (dss_kill [3, 4, 5] dss_nil))))))))
    (dss_one (ds_ret (de_cmp (ne_ok hu64) (nomark _) (de_var (pv 2)) (de_lst da_nil)))))))

abbrev s_law : Stmt := topS 14
theorem sc_law : FnScope ["script", "pen", "turn", "web", "found", "many"] ["script"] (C8.fnScope s_law) := C8.fnScope_by (by decide +kernel)

def w_law (script : List Int) (Q : Bool → Prop) : Prop :=
  w__law_tpen script fun r_tpen =>
  wFor1 (irange 0 (4 : Int)) r_tpen (fun pen (turn : Int) nx =>
  w__law_tweb pen (8 : Int) fun pen1 r_tweb =>
  (fewP r_tweb) ∧ bnd (fewF r_tweb) fun found =>
  wJ1 (fun j1 =>
  wIf (!true)
  (j1 true)
  (wIf (!decide ((2 : Int) = (2 : Int)))
  (j1 true)
  (w__law_tis_hueing r_tweb found.2 fun r_tis_hueing =>
  j1 (!r_tis_hueing))))
  (fun (z : Bool) =>
  wIf (z)
  (Q false)
  (wJ1 (fun j3 =>
  (found.2.length ≤ 4000) ∧ (sameP (D.int found.1) (D.int ((ddI found.2).length : Int))) ∧ wIf (!(sameT (D.int found.1) (D.int ((ddI found.2).length : Int))))
  (j3 true)
  (wJ1 (fun j4 =>
  wIf (decide ((0 : Int) < found.1))
  (w__law_tcan r_tweb (found.1 - (1 : Int)) fun r_tcan =>
  j4 r_tcan)
  (j4 false))
  (fun (z2 : Bool) =>
  j3 z2)))
  (fun (z1 : Bool) =>
  wIf (z1)
  (Q false)
  (nx pen1)))))
  (fun (pen : Pen) => Q true)

theorem spec_law {s : List Int} (hs : s.length ≤ 63) : w_law s fun r => r = true := by
  unfold w_law
  refine ⟨hs, fun pen hp => ?_⟩
  refine wFor1_z (by omega) (fun k pen => POk pen (k.toNat * 100000)) hp (fun _ _ => rfl) fun k pen C k0 k1 hp c => ?_
  refine spec__law_tweb hp (by omega) (by omega) (by omega) fun pen w hp hw hn => ?_
  have h0 := hw.n0
  have F : fewP w := ⟨hw, by omega⟩
  have O := fewF_ok F
  have hl := O.hue.len
  have wl := web_len24 hw (by omega)
  refine ⟨F, ?_⟩
  rintro _ rfl
  refine ⟨fun z => z = false, ⟨fun hb => by simp at hb, fun _ => ⟨fun hb => by simp at hb, fun _ => ?_⟩⟩, ?_⟩
  · refine spec__law_tis_hueing hl O.hue.rng (by omega) (fun t mt => ?_) rfl
    have := hw.mem t mt
    exact ⟨by omega, by omega, O.hue.pr t mt⟩
  rintro _ rfl
  refine ⟨(fun h => nomatch h), fun _ => ?_⟩
  refine ⟨fun z => z = false, ⟨by omega, ⟨by rw [O.cnt], trivial⟩, fun hb => by simp [sameT] at hb, fun _ => ?_⟩, ?_⟩
  · refine ⟨fun z => z = false, ⟨fun hb => ?_, fun _ => rfl⟩, fun z hz => hz⟩
    have pos : 0 < (fewF w).1 := by simpa using hb
    refine spec__law_tcan hw hn (by omega) (by have := O.le; omega) (fun g R hg => ?_) rfl
    have h1 := O.top g R
    have h2 := dd_le hg
    omega
  rintro _ rfl
  exact ⟨(fun h => nomatch h), fun _ => c _ (hp.up (by omega))⟩


def b_law : DTS := (dSeq (dSet 1 (dCall 1 F__law_tpen (dACons (dVar 0) dNil)))
    (dSeq (dFor (iRange1 (dAConsP (dConst (.fz (.int 4))) dNil)) (gN 2) (dSeq (dSet 3 (dCall 2 F__law_tweb (dALend 1 (dAConsP (dConst (.fz (.int 8))) dNil))))
    (dSeq (dSet 4 (dCall 1 F_fewest_hues (dACons (dVar 3) dNil)))
    (dSeq (dIf (dOr (dNot (dVal (dCB1 (fun y R => isinstD [y, .opq (.ty "tuple")] R) (dVar 4)))) (dOr (dVal (dBin neD true (dCB1 (fun y R => lenD [y] R) (dVar 4)) (dConst (.fz (.int 2))))) (dNot (dVal (dCall 2 F__law_tis_hueing (dACons (dVar 3) (dAConsP (dBin ixD true (dVar 4) (dConst (.fz (.int 1)))) dNil))))))) (dRet (dConst (.fz (.bl false)))) dNext)
    (dSeq (dSet 5 (dBin ixD true (dVar 4) (dConst (.fz (.int 0)))))
    (dSeq (dIf (dOr (dNot (dVal (dCall 2 F__law_tsame (dACons (dVar 5) (dAConsP (dLenSet (dBin ixD true (dVar 4) (dConst (.fz (.int 1))))) dNil))))) (dAnd (dVal (dBin (cmpI fun i j => decide (j < i)) true (dVar 5) (dConst (.fz (.int 0))))) (dVal (dCall 2 F__law_tcan (dACons (dVar 3) (dAConsP (dBin subD true (dVar 5) (dConst (.fz (.int 1)))) dNil)))))) (dRet (dConst (.fz (.bl false)))) dNext)
    (dSeq (dKill [2, 3, 4, 5]) dNext)))))))
    (dRet (dConst (.fz (.bl true))))))

set_option maxHeartbeats 4000000 in
theorem law_law : ∀ ts R, ts.length = 1 → F_law ts R → b_law ⟨fun G => R (G.take 0) (.fz .non), retW 0 R⟩ (ts.map some ++ List.replicate ((["script", "pen", "turn", "web", "found", "many"] : List Str).length - 1) none) := by
  rintro ts R - ⟨script, rfl, hs, q⟩
  have hR : ∀ r, r = true → R [] (.fz (D.bl r)) := fun r e => by subst e; exact q
  have h : w_law script fun r => r = true := spec_law hs
  unfold w_law at h
  unfold b_law
  refine q_env (G2 := [some (.fz (D.scr script)), none, none, none, none, none]) rfl ?_
  refine q_set ?_
  refine q_call ?_
  refine a_cons (sp_var_fz (i := 0) rfl) fz_fz ?_
  refine a_nil ?_
  refine c_fin0 (fun (x : Pen) => (x.T)) rfl rfl (fun R hR => ⟨script, _, rfl, h, hR⟩) (fun r_tpen h => ?_)
  refine w_set (G' := [some (.fz (D.scr script)), some (r_tpen.T), none, none, none, none]) (lt_l rfl) rfl ?_
  refine q_for1 D.int (fun (pen : Pen) => [some (.fz (D.scr script)), some (pen.T), none, none, none, none]) (si_range1 (sa_consP sp_con fz_fz sa_nil) (by decide)) rfl h (fun pen turn P C h hC => ?_) (fun pen h => ?_)
  · refine (sg_name (G' := [some (.fz (D.scr script)), some (pen.T), some (.fz (D.int turn)), none, none, none]) (lt_l rfl) rfl) _ ?_
    refine q_set ?_
    refine q_call ?_
    refine a_lend rfl ?_
    refine a_consP sp_con fz_fz ?_
    refine a_nil ?_
    refine c_fin1 (fun (p : Pen) => p.T) (fun (x : Int × (List (Int × Int))) => (.fz ((eP D.int (eU (eP D.int D.int))) x))) (fun (pp_ : Pen) => [some (.fz (D.scr script)), some (pp_.T), some (.fz (D.int turn)), none, none, none]) rfl rfl (fun R hR => ⟨pen, (8 : Int), _, rfl, h, hR⟩) (fun _ => rfl) (fun pen1 r_tweb h => ?_)
    refine w_set (G' := [some (.fz (D.scr script)), some (pen1.T), some (.fz (D.int turn)), some (.fz ((eP D.int (eU (eP D.int D.int))) r_tweb)), none, none]) (lt_l rfl) rfl ?_
    obtain ⟨q1, h⟩ := h
    refine p_setB (fun x => (.fz ((eP D.int (eU D.int)) x))) (G' := fun found => [some (.fz (D.scr script)), some (pen1.T), some (.fz (D.int turn)), some (.fz ((eP D.int (eU (eP D.int D.int))) r_tweb)), some (.fz ((eP D.int (eU D.int)) found)), none]) h (sp_call (sa_cons (sp_var_fz (i := 3) rfl) fz_fz sa_nil) rfl rfl (fun R hR => ⟨r_tweb, rfl, q1, hR⟩)) (lt_l rfl) (fun _ => rfl) fun found h => ?_
    refine q_seq ?_
    refine q_if ?_
    obtain ⟨j1, h, hk⟩ := h
    refine x_joint0 ([some (.fz (D.scr script)), some (pen1.T), some (.fz (D.int turn)), some (.fz ((eP D.int (eU (eP D.int D.int))) r_tweb)), some (.fz ((eP D.int (eU D.int)) found)), none]) (J := j1) (fun hQ => ?_) (fun z h => ?_)
    · refine q_tor ?_
      refine (st_not (st_val (sp_cb1 (sp_var_fz (i := 4) rfl) rd_fz (k_isn (d := (eP D.int (eU D.int)) found) isi_tuple_tuple)) rd_fz)) _ ?_
      refine w_tori (fun hb => ?_) (fun hb => ?_)
      · replace h := h.1 hb
        exact hQ _ h
      · replace h := h.2 hb
        refine q_tor ?_
        refine (st_val (sp_bin (sp_cb1 (sp_var_fz (i := 4) rfl) rd_fz (k_lenP (n := 2) rfl)) rd_fz sp_con rd_fz (k_ne (a := (2 : Int)) (b := (2 : Int)) ok_int (Nat.le_of_ble_eq_true rfl))) rd_fz) _ ?_
        refine w_tori (fun hb => ?_) (fun hb => ?_)
        · replace h := h.1 hb
          exact hQ _ h
        · replace h := h.2 hb
          refine q_tnot ?_
          refine q_val ?_
          refine q_call ?_
          refine a_cons (sp_var_fz (i := 3) rfl) fz_fz ?_
          refine a_consP (sp_bin (sp_var_fz (i := 4) rfl) rd_fz sp_con rd_fz k_ix1) fz_fz ?_
          refine a_nil ?_
          refine c_fin0 (fun (x : Bool) => (.fz (D.bl x))) rfl rfl (fun R hR => ⟨r_tweb, found.2, _, rfl, h, hR⟩) (fun r_tis_hueing h => ?_)
          refine w_val rd_fz ?_
          refine w_tnot ?_
          exact hQ _ h
    replace h := hk z h
    refine w_if (fun hb => ?_) (fun hb => ?_)
    · replace h := h.1 hb
      exact p_ret sp_con (hR _ h)
    · replace h := h.2 hb
      refine q_nextS ?_
      refine p_set (G' := [some (.fz (D.scr script)), some (pen1.T), some (.fz (D.int turn)), some (.fz ((eP D.int (eU (eP D.int D.int))) r_tweb)), some (.fz ((eP D.int (eU D.int)) found)), some (.fz (D.int found.1))]) (sp_bin (sp_var_fz (i := 4) rfl) rd_fz sp_con rd_fz k_ix0) (lt_l rfl) rfl ?_
      refine q_seq ?_
      refine q_if ?_
      obtain ⟨j3, h, hk⟩ := h
      refine x_joint0 ([some (.fz (D.scr script)), some (pen1.T), some (.fz (D.int turn)), some (.fz ((eP D.int (eU (eP D.int D.int))) r_tweb)), some (.fz ((eP D.int (eU D.int)) found)), some (.fz (D.int found.1))]) (J := j3) (fun hQ => ?_) (fun z1 h => ?_)
      · refine q_tor ?_
        obtain ⟨q2, q3, h⟩ := h
        refine (st_not (st_val (sp_call (sa_cons (sp_var_fz (i := 5) rfl) fz_fz (sa_consP (sp_lenSet (sp_bin (sp_var_fz (i := 4) rfl) rd_fz sp_con rd_fz k_ix1) rd_fz q2) fz_fz sa_nil)) rfl rfl (fun R hR => ⟨(D.int found.1), (D.int ((ddI found.2).length : Int)), rfl, q3, hR⟩)) rd_fz)) _ ?_
        refine w_tori (fun hb => ?_) (fun hb => ?_)
        · replace h := h.1 hb
          exact hQ _ h
        · replace h := h.2 hb
          obtain ⟨j4, h, hk⟩ := h
          refine x_joint0 ([some (.fz (D.scr script)), some (pen1.T), some (.fz (D.int turn)), some (.fz ((eP D.int (eU (eP D.int D.int))) r_tweb)), some (.fz ((eP D.int (eU D.int)) found)), some (.fz (D.int found.1))]) (J := j4) (fun hQ => ?_) (fun z2 h => ?_)
          · refine q_tand ?_
            refine (st_val (sp_bin (sp_var_fz (i := 5) rfl) rd_fz sp_con rd_fz k_gt) rd_fz) _ ?_
            refine w_tandi (fun hb => ?_) (fun hb => ?_)
            · replace h := h.1 hb
              refine q_val ?_
              refine q_call ?_
              refine a_cons (sp_var_fz (i := 3) rfl) fz_fz ?_
              refine a_consP (sp_bin (sp_var_fz (i := 5) rfl) rd_fz sp_con rd_fz k_sub) fz_fz ?_
              refine a_nil ?_
              refine c_fin0 (fun (x : Bool) => (.fz (D.bl x))) rfl rfl (fun R hR => ⟨r_tweb, (found.1 - (1 : Int)), _, rfl, h, hR⟩) (fun r_tcan h => ?_)
              refine w_val rd_fz ?_
              exact hQ _ h
            · replace h := h.2 hb
              exact hQ _ h
          replace h := hk z2 h
          exact hQ _ h
      replace h := hk z1 h
      refine w_if (fun hb => ?_) (fun hb => ?_)
      · replace h := h.1 hb
        exact p_ret sp_con (hR _ h)
      · replace h := h.2 hb
        refine q_nextS ?_
        refine p_kill (G' := [some (.fz (D.scr script)), some (pen1.T), none, none, none, none]) rfl ?_
        exact hC _ h
  exact p_ret sp_con (hR _ h)

theorem ok_law {f : Addr} {fd : FuncData} (Fd : C8.Def K mg "law" s_law f fd) (h__law_tpen : Fn P w K mg base 1 "_law_tpen" 1 0 F__law_tpen) (h__law_tweb : Fn P w K mg base 2 "_law_tweb" 2 1 F__law_tweb) (h_fewest_hues : Fn P w K mg base 4 "fewest_hues" 1 0 F_fewest_hues) (h__law_tis_hueing : Fn P w K mg base 1 "_law_tis_hueing" 2 0 F__law_tis_hueing) (h__law_tsame : Fn P w K mg base 6 "_law_tsame" 2 0 F__law_tsame) (h__law_tcan : Fn P w K mg base 2 "_law_tcan" 2 0 F__law_tcan) (T_isinstance : mg "isinstance" = none) (T_len : mg "len" = none) (T_range : mg "range" = none) (T_set : mg "set" = none) (T_tuple : mg "tuple" = none) : FnG P w K mg base 7 f fd ["script"] (spOf K 1 0 F_law) := by
  refine fnG_mk (body := b_law) Fd sc_law rfl (by decide) (fun cdv A outer s H E hgd hr => ?_) law_law
  have nd := sc_law.nd
  have hu64 := hr.units
  have hu65 := hu65 hr
  have hu1 := hu1 hr
  have hu2 := hu2 hr
  have hu0 := hr.units0
  exact (dss_cons (ds_set (i := 1) nd rfl (.inl rfl) (de_call h__law_tpen hgd hr (by decide) (by rfl) (da_cons (de_var (pv 0)) da_nil)) (by decide))
    (dss_cons (ds_for PassesOwn.never rfl (di_range1 (by rfl) T_range (da_consP de_int da_nil)) (dg_name (i := 2) (pg_name (i := 2) nd rfl (.inl rfl)) (fun _ _ => take_set (by decide))) (dss_cons (ds_set (i := 3) nd rfl (.inl rfl) (de_call h__law_tweb hgd hr (by decide) (by rfl) (da_lend (pv 1) (da_consP de_int da_nil))) (by decide))
    (dss_cons (ds_set (i := 4) nd rfl (.inl rfl) (de_call h_fewest_hues hgd hr (by decide) (by rfl) (da_cons (de_var (pv 3)) da_nil)) (by decide))
    (dss_cons (ds_if (DW.dt (dw_or (dt_not (dt_val (de_cb1c isinst_ok (by rfl) T_isinstance (by decide +kernel) (de_var (pv 4)) (pe_bltn (v := .ty "tuple") (by rfl) T_tuple (by decide +kernel) rfl) (fun _ => .opq)))) (dw_or (dt_cmp (ne_ok hu64) (nomark _) (de_cb1 len_ok (by rfl) T_len (by decide +kernel) (de_var (pv 4))) de_int) (dw_or1 (dt_not (dt_val (de_call h__law_tis_hueing hgd hr (by decide) (by rfl) (da_cons (de_var (pv 3)) (da_consP (de_ix hu1 (de_var (pv 4)) de_int (fun _ _ => rfl)) da_nil))))))))) (dss_one (ds_ret de_bl)) dss_nil)
    (dss_cons (ds_set (i := 5) nd rfl (.inl rfl) (de_ix hu1 (de_var (pv 4)) de_int (fun _ _ => rfl)) (by decide))
    (dss_cons (ds_if (DW.dt (dw_or (dt_not (dt_val (de_call h__law_tsame hgd hr (by decide) (by rfl) (da_cons (de_var (pv 5)) (da_consP (de_lenSet (by rfl) T_len (by rfl) T_set rfl (de_ix hu1 (de_var (pv 4)) de_int (fun _ _ => rfl))) da_nil))))) (dw_or1 (DW.dt (dw_and (dt_cmp gt_ok (nomark _) (de_var (pv 5)) de_int) (dw_and1 (dt_val (de_call h__law_tcan hgd hr (by decide) (by rfl) (da_cons (de_var (pv 3)) (da_consP (de_bin sub_ok (de_var (pv 5)) de_int) da_nil)))))))))) (dss_one (ds_ret de_bl)) dss_nil)
    (dss_kill [2, 3, 4, 5] dss_nil)))))))
    (dss_one (ds_ret de_bl))))

end
theorem all_mk {l : PySem.W.OpenLaw} {w : World} {K : PySem.W.Frag} {h : Heap} {mg : Str → Option Value} {fa : Addr} {f1 f2 f3 f4 f5 f6 f7 f8 f9 f10 f11 f12 : Addr} {od1 an1 od2 an2 od3 an3 od4 an4 od5 an5 od6 an6 od7 an7 od8 an8 od9 an9 od10 an10 od11 an11 od12 an12 : Option Addr} {sl1 sl2 sl3 sl4 sl5 sl6 sl7 sl8 sl9 sl10 sl11 sl12 : Array (Option Value)} {oc1 kV1 dc1 pm1 cd1 ct1 oc2 kV2 dc2 pm2 cd2 ct2 oc3 kV3 dc3 pm3 cd3 ct3 oc4 kV4 dc4 pm4 cd4 ct4 oc5 kV5 dc5 pm5 cd5 ct5 oc6 kV6 dc6 pm6 cd6 ct6 oc7 kV7 dc7 pm7 cd7 ct7 oc8 kV8 dc8 pm8 cd8 ct8 oc9 kV9 dc9 pm9 cd9 ct9 oc10 kV10 dc10 pm10 cd10 ct10 oc11 kV11 dc11 pm11 cd11 ct11 oc12 kV12 dc12 pm12 cd12 ct12 : Value} (X : K.In h) (G : h.Ns mainGlobals mg) (hfa : mg "law" = some (.ref fa))
    (a1 : PySem.W.nsIn K mainGlobals "all_near" = some (some (.ref f1))) (l1 : K.lookup f1 = some ⟨oc1, od1, .func (PySem.W.fnOf "all_near" "all_near" (C8.fnArgs s_all_near) (C8.fnBody s_all_near) (C8.fnScope s_all_near) .none kV1 dc1 pm1 an1 cd1 ct1), sl1⟩) (c1 : PySem.W.codeIn K cd1 "all_near" = true) (k1 : PySem.W.keepIn K (.ref f1) = true)
    (a2 : PySem.W.nsIn K mainGlobals "near" = some (some (.ref f2))) (l2 : K.lookup f2 = some ⟨oc2, od2, .func (PySem.W.fnOf "near" "near" (C8.fnArgs s_near) (C8.fnBody s_near) (C8.fnScope s_near) .none kV2 dc2 pm2 an2 cd2 ct2), sl2⟩) (c2 : PySem.W.codeIn K cd2 "near" = true) (k2 : PySem.W.keepIn K (.ref f2) = true)
    (a3 : PySem.W.nsIn K mainGlobals "hued_by" = some (some (.ref f3))) (l3 : K.lookup f3 = some ⟨oc3, od3, .func (PySem.W.fnOf "hued_by" "hued_by" (C8.fnArgs s_hued_by) (C8.fnBody s_hued_by) (C8.fnScope s_hued_by) .none kV3 dc3 pm3 an3 cd3 ct3), sl3⟩) (c3 : PySem.W.codeIn K cd3 "hued_by" = true) (k3 : PySem.W.keepIn K (.ref f3) = true)
    (a4 : PySem.W.nsIn K mainGlobals "fewest_hues" = some (some (.ref f4))) (l4 : K.lookup f4 = some ⟨oc4, od4, .func (PySem.W.fnOf "fewest_hues" "fewest_hues" (C8.fnArgs s_fewest_hues) (C8.fnBody s_fewest_hues) (C8.fnScope s_fewest_hues) .none kV4 dc4 pm4 an4 cd4 ct4), sl4⟩) (c4 : PySem.W.codeIn K cd4 "fewest_hues" = true) (k4 : PySem.W.keepIn K (.ref f4) = true)
    (a5 : PySem.W.nsIn K mainGlobals "_law_tpen" = some (some (.ref f5))) (l5 : K.lookup f5 = some ⟨oc5, od5, .func (PySem.W.fnOf "_law_tpen" "_law_tpen" (C8.fnArgs s__law_tpen) (C8.fnBody s__law_tpen) (C8.fnScope s__law_tpen) .none kV5 dc5 pm5 an5 cd5 ct5), sl5⟩) (c5 : PySem.W.codeIn K cd5 "_law_tpen" = true) (k5 : PySem.W.keepIn K (.ref f5) = true)
    (a6 : PySem.W.nsIn K mainGlobals "_law_tdraw" = some (some (.ref f6))) (l6 : K.lookup f6 = some ⟨oc6, od6, .func (PySem.W.fnOf "_law_tdraw" "_law_tdraw" (C8.fnArgs s__law_tdraw) (C8.fnBody s__law_tdraw) (C8.fnScope s__law_tdraw) .none kV6 dc6 pm6 an6 cd6 ct6), sl6⟩) (c6 : PySem.W.codeIn K cd6 "_law_tdraw" = true) (k6 : PySem.W.keepIn K (.ref f6) = true)
    (a7 : PySem.W.nsIn K mainGlobals "_law_tsame" = some (some (.ref f7))) (l7 : K.lookup f7 = some ⟨oc7, od7, .func (PySem.W.fnOf "_law_tsame" "_law_tsame" (C8.fnArgs s__law_tsame) (C8.fnBody s__law_tsame) (C8.fnScope s__law_tsame) .none kV7 dc7 pm7 an7 cd7 ct7), sl7⟩) (c7 : PySem.W.codeIn K cd7 "_law_tsame" = true) (k7 : PySem.W.keepIn K (.ref f7) = true)
    (a8 : PySem.W.nsIn K mainGlobals "_law_tweb" = some (some (.ref f8))) (l8 : K.lookup f8 = some ⟨oc8, od8, .func (PySem.W.fnOf "_law_tweb" "_law_tweb" (C8.fnArgs s__law_tweb) (C8.fnBody s__law_tweb) (C8.fnScope s__law_tweb) .none kV8 dc8 pm8 an8 cd8 ct8), sl8⟩) (c8 : PySem.W.codeIn K cd8 "_law_tweb" = true) (k8 : PySem.W.keepIn K (.ref f8) = true)
    (a9 : PySem.W.nsIn K mainGlobals "_law_tis_tied" = some (some (.ref f9))) (l9 : K.lookup f9 = some ⟨oc9, od9, .func (PySem.W.fnOf "_law_tis_tied" "_law_tis_tied" (C8.fnArgs s__law_tis_tied) (C8.fnBody s__law_tis_tied) (C8.fnScope s__law_tis_tied) .none kV9 dc9 pm9 an9 cd9 ct9), sl9⟩) (c9 : PySem.W.codeIn K cd9 "_law_tis_tied" = true) (k9 : PySem.W.keepIn K (.ref f9) = true)
    (a10 : PySem.W.nsIn K mainGlobals "_law_tis_hueing" = some (some (.ref f10))) (l10 : K.lookup f10 = some ⟨oc10, od10, .func (PySem.W.fnOf "_law_tis_hueing" "_law_tis_hueing" (C8.fnArgs s__law_tis_hueing) (C8.fnBody s__law_tis_hueing) (C8.fnScope s__law_tis_hueing) .none kV10 dc10 pm10 an10 cd10 ct10), sl10⟩) (c10 : PySem.W.codeIn K cd10 "_law_tis_hueing" = true) (k10 : PySem.W.keepIn K (.ref f10) = true)
    (a11 : PySem.W.nsIn K mainGlobals "_law_tcan" = some (some (.ref f11))) (l11 : K.lookup f11 = some ⟨oc11, od11, .func (PySem.W.fnOf "_law_tcan" "_law_tcan" (C8.fnArgs s__law_tcan) (C8.fnBody s__law_tcan) (C8.fnScope s__law_tcan) .none kV11 dc11 pm11 an11 cd11 ct11), sl11⟩) (c11 : PySem.W.codeIn K cd11 "_law_tcan" = true) (k11 : PySem.W.keepIn K (.ref f11) = true)
    (a12 : PySem.W.nsIn K mainGlobals "law" = some (some (.ref f12))) (l12 : K.lookup f12 = some ⟨oc12, od12, .func (PySem.W.fnOf "law" "law" (C8.fnArgs s_law) (C8.fnBody s_law) (C8.fnScope s_law) .none kV12 dc12 pm12 an12 cd12 ct12), sl12⟩) (c12 : PySem.W.codeIn K cd12 "law" = true) (k12 : PySem.W.keepIn K (.ref f12) = true) (z_all : PySem.W.nsIn K mainGlobals "all" = some none) (z_bool : PySem.W.nsIn K mainGlobals "bool" = some none) (z_int : PySem.W.nsIn K mainGlobals "int" = some none) (z_isinstance : PySem.W.nsIn K mainGlobals "isinstance" = some none) (z_len : PySem.W.nsIn K mainGlobals "len" = some none) (z_list : PySem.W.nsIn K mainGlobals "list" = some none) (z_max : PySem.W.nsIn K mainGlobals "max" = some none) (z_min : PySem.W.nsIn K mainGlobals "min" = some none) (z_range : PySem.W.nsIn K mainGlobals "range" = some none) (z_set : PySem.W.nsIn K mainGlobals "set" = some none) (z_sorted : PySem.W.nsIn K mainGlobals "sorted" = some none) (z_str : PySem.W.nsIn K mainGlobals "str" = some none) (z_tuple : PySem.W.nsIn K mainGlobals "tuple" = some none) (z_zip : PySem.W.nsIn K mainGlobals "zip" = some none) :
    ∃ fd : FuncData, (∀ (s : Shared) (u : Value), BindsTo s fd ⟨[u], []⟩ [("script", u)]) ∧ ∀ base : Heap, K.In base → base.Ns mainGlobals mg → FnG l.prog w K mg base 7 fa fd ["script"] (spOf K 1 0 F_law) := by
  have e := hfa.symm.trans (PySem.W.mg_of X G a12)
  cases e
  have T_all : mg "all" = none := PySem.W.mg_none_of X G z_all
  have T_bool : mg "bool" = none := PySem.W.mg_none_of X G z_bool
  have T_int : mg "int" = none := PySem.W.mg_none_of X G z_int
  have T_isinstance : mg "isinstance" = none := PySem.W.mg_none_of X G z_isinstance
  have T_len : mg "len" = none := PySem.W.mg_none_of X G z_len
  have T_list : mg "list" = none := PySem.W.mg_none_of X G z_list
  have T_max : mg "max" = none := PySem.W.mg_none_of X G z_max
  have T_min : mg "min" = none := PySem.W.mg_none_of X G z_min
  have T_range : mg "range" = none := PySem.W.mg_none_of X G z_range
  have T_set : mg "set" = none := PySem.W.mg_none_of X G z_set
  have T_sorted : mg "sorted" = none := PySem.W.mg_none_of X G z_sorted
  have T_str : mg "str" = none := PySem.W.mg_none_of X G z_str
  have T_tuple : mg "tuple" = none := PySem.W.mg_none_of X G z_tuple
  have T_zip : mg "zip" = none := PySem.W.mg_none_of X G z_zip
  have D1 : C8.Def K mg "all_near" s_all_near f1 _ := ⟨⟨_, _, _, _, _, _, _, _, _, _, rfl, l1, c1⟩, PySem.W.mg_of X G a1, k1⟩
  have B1 := D1.fn.binds rfl (ps := ["web"]) fun _ _ _ _ _ _ us hl => match us, hl with | [_], _ => rfl
  have D2 : C8.Def K mg "near" s_near f2 _ := ⟨⟨_, _, _, _, _, _, _, _, _, _, rfl, l2, c2⟩, PySem.W.mg_of X G a2, k2⟩
  have B2 := D2.fn.binds rfl (ps := ["web", "place"]) fun _ _ _ _ _ _ us hl => match us, hl with | [_, _], _ => rfl
  have D3 : C8.Def K mg "hued_by" s_hued_by f3 _ := ⟨⟨_, _, _, _, _, _, _, _, _, _, rfl, l3, c3⟩, PySem.W.mg_of X G a3, k3⟩
  have B3 := D3.fn.binds rfl (ps := ["web", "many"]) fun _ _ _ _ _ _ us hl => match us, hl with | [_, _], _ => rfl
  have D4 : C8.Def K mg "fewest_hues" s_fewest_hues f4 _ := ⟨⟨_, _, _, _, _, _, _, _, _, _, rfl, l4, c4⟩, PySem.W.mg_of X G a4, k4⟩
  have B4 := D4.fn.binds rfl (ps := ["web"]) fun _ _ _ _ _ _ us hl => match us, hl with | [_], _ => rfl
  have D5 : C8.Def K mg "_law_tpen" s__law_tpen f5 _ := ⟨⟨_, _, _, _, _, _, _, _, _, _, rfl, l5, c5⟩, PySem.W.mg_of X G a5, k5⟩
  have B5 := D5.fn.binds rfl (ps := ["script"]) fun _ _ _ _ _ _ us hl => match us, hl with | [_], _ => rfl
  have D6 : C8.Def K mg "_law_tdraw" s__law_tdraw f6 _ := ⟨⟨_, _, _, _, _, _, _, _, _, _, rfl, l6, c6⟩, PySem.W.mg_of X G a6, k6⟩
  have B6 := D6.fn.binds rfl (ps := ["pen", "many"]) fun _ _ _ _ _ _ us hl => match us, hl with | [_, _], _ => rfl
  have D7 : C8.Def K mg "_law_tsame" s__law_tsame f7 _ := ⟨⟨_, _, _, _, _, _, _, _, _, _, rfl, l7, c7⟩, PySem.W.mg_of X G a7, k7⟩
  have B7 := D7.fn.binds rfl (ps := ["found", "due"]) fun _ _ _ _ _ _ us hl => match us, hl with | [_, _], _ => rfl
  have D8 : C8.Def K mg "_law_tweb" s__law_tweb f8 _ := ⟨⟨_, _, _, _, _, _, _, _, _, _, rfl, l8, c8⟩, PySem.W.mg_of X G a8, k8⟩
  have B8 := D8.fn.binds rfl (ps := ["pen", "limit"]) fun _ _ _ _ _ _ us hl => match us, hl with | [_, _], _ => rfl
  have D9 : C8.Def K mg "_law_tis_tied" s__law_tis_tied f9 _ := ⟨⟨_, _, _, _, _, _, _, _, _, _, rfl, l9, c9⟩, PySem.W.mg_of X G a9, k9⟩
  have B9 := D9.fn.binds rfl (ps := ["web", "a", "b"]) fun _ _ _ _ _ _ us hl => match us, hl with | [_, _, _], _ => rfl
  have D10 : C8.Def K mg "_law_tis_hueing" s__law_tis_hueing f10 _ := ⟨⟨_, _, _, _, _, _, _, _, _, _, rfl, l10, c10⟩, PySem.W.mg_of X G a10, k10⟩
  have B10 := D10.fn.binds rfl (ps := ["web", "thing"]) fun _ _ _ _ _ _ us hl => match us, hl with | [_, _], _ => rfl
  have D11 : C8.Def K mg "_law_tcan" s__law_tcan f11 _ := ⟨⟨_, _, _, _, _, _, _, _, _, _, rfl, l11, c11⟩, PySem.W.mg_of X G a11, k11⟩
  have B11 := D11.fn.binds rfl (ps := ["web", "many"]) fun _ _ _ _ _ _ us hl => match us, hl with | [_, _], _ => rfl
  have D12 : C8.Def K mg "law" s_law _ _ := ⟨⟨_, _, _, _, _, _, _, _, _, _, rfl, l12, c12⟩, PySem.W.mg_of X G a12, k12⟩
  refine ⟨PySem.W.fnOf "law" "law" (C8.fnArgs s_law) (C8.fnBody s_law) (C8.fnScope s_law) .none kV12 dc12 pm12 an12 cd12 ct12, fun s v => .of_eq rfl, fun base _ _ => ?_⟩
  have h_all_near := ok_all_near (P := l.prog) (w := w) (base := base) D1 B1 T_range
  have h__law_tpen := ok__law_tpen (P := l.prog) (w := w) (base := base) D5 B5
  have h__law_tdraw := ok__law_tdraw (P := l.prog) (w := w) (base := base) D6 B6 T_len
  have hD__law_tsame : ∀ D : Nat, Fn l.prog w K mg base (0 + D) "_law_tsame" 2 0 (Fw__law_tsame D) := fun D => by
    induction D with
    | zero => exact fn_weak (fun ts R h => no__law_tsame ts R h) (fn_no D7 B7 rfl)
    | succ D ih => exact ok__law_tsame (P := l.prog) (w := w) (base := base) D D7 B7 ih T_all T_bool T_int T_isinstance T_len T_list T_str T_tuple T_zip
  have h__law_tsame : Fn l.prog w K mg base 6 "_law_tsame" 2 0 F__law_tsame := fn_weak law__law_tsame (fn_up (hD__law_tsame 5) (by omega))
  have h__law_tis_tied := ok__law_tis_tied (P := l.prog) (w := w) (base := base) D9 B9 T_max T_min
  have h__law_tis_hueing := ok__law_tis_hueing (P := l.prog) (w := w) (base := base) D10 B10 T_bool T_int T_isinstance T_len T_tuple
  have h_near := ok_near (P := l.prog) (w := w) (base := base) D2 B2 h_all_near T_sorted
  have h__law_tweb := ok__law_tweb (P := l.prog) (w := w) (base := base) D8 B8 h__law_tdraw T_min T_range T_tuple
  have h__law_tcan := ok__law_tcan (P := l.prog) (w := w) (base := base) D11 B11 h__law_tis_tied T_len T_min T_range T_set
  have h_hued_by := ok_hued_by (P := l.prog) (w := w) (base := base) D3 B3 h_near T_all T_len T_max T_min T_range
  have h_fewest_hues := ok_fewest_hues (P := l.prog) (w := w) (base := base) D4 B4 h_hued_by
  exact ok_law D12 h__law_tpen h__law_tweb h_fewest_hues h__law_tis_hueing h__law_tsame h__law_tcan T_isinstance T_len T_range T_set T_tuple
theorem walk {l : PySem.W.OpenLaw} {q : Program} {loose : List Str} {XP : (Str → Option Value) → Heap → Prop} {YP : World → Heap → Prop} {d : DefRec} {K : Params → PySem.W.Frag} (hn : l.most = some 63) (hdf : d.params.defaults = [])
    (hY : ∀ (w : World) (h : Heap), YP w h → (K w.params).In h)
    (F : ∀ (w : World) (mg : Str → Option Value) (fa : Addr) (h : Heap), (K w.params).In h → h.Ns mainGlobals mg → mg d.name = some (.ref fa) →
      ∃ fd : FuncData, (∀ (s : Shared) (u : Value), BindsTo s fd ⟨[u], []⟩ [("script", u)]) ∧ ∀ base : Heap, (K w.params).In base → base.Ns mainGlobals mg → FnG l.prog w (K w.params) mg base 7 fa fd ["script"] (spOf (K w.params) 1 0 F_law)) :
    PySem.W.WalkO q loose XP YP l.row.toRowW d [] (fun f vs => PySem.call f vs) :=
  walkG (sp := fun w => spOf (K w.params) 1 0 F_law) hn (by decide) hdf ⟨rfl, by decide, by decide⟩ hY F (fun _ _ _ _ hl _ sq => asks_true hl sq)
end TY
open PySem PySem.W PyProof.Rows
set_option maxRecDepth 100000 in
set_option maxHeartbeats 0 in
theorem PySem.Challenge.cw_tiefold_k20_fewest_hues_holds : PySem.Challenge.rw_tiefold_k20_fewest_hues.Holds := by
  w_on; o_law; k_head; (case hw => w_witness2)
  k_fill
  refine TY.walk (l := PySem.Challenge.rw_tiefold_k20_fewest_hues) rfl rfl (fun w h Y => PySem.W.kIn_of Y) ?F
  case F =>
    intro w mg fa h KX G hmg
    refine' TY.all_mk KX G hmg ?a1 ?l1 ?c1 ?k1 ?a2 ?l2 ?c2 ?k2 ?a3 ?l3 ?c3 ?k3 ?a4 ?l4 ?c4 ?k4 ?a5 ?l5 ?c5 ?k5 ?a6 ?l6 ?c6 ?k6 ?a7 ?l7 ?c7 ?k7 ?a8 ?l8 ?c8 ?k8 ?a9 ?l9 ?c9 ?k9 ?a10 ?l10 ?c10 ?k10 ?a11 ?l11 ?c11 ?k11 ?a12 ?l12 ?c12 ?k12 ?z_all ?z_bool ?z_int ?z_isinstance ?z_len ?z_list ?z_max ?z_min ?z_range ?z_set ?z_sorted ?z_str ?z_tuple ?z_zip
    (case a1 => k_is); (case l1 => k_is); (case c1 => k_is); (case k1 => k_is)
    (case a2 => k_is); (case l2 => k_is); (case c2 => k_is); (case k2 => k_is)
    (case a3 => k_is); (case l3 => k_is); (case c3 => k_is); (case k3 => k_is)
    (case a4 => k_is); (case l4 => k_is); (case c4 => k_is); (case k4 => k_is)
    (case a5 => k_is); (case l5 => k_is); (case c5 => k_is); (case k5 => k_is)
    (case a6 => k_is); (case l6 => k_is); (case c6 => k_is); (case k6 => k_is)
    (case a7 => k_is); (case l7 => k_is); (case c7 => k_is); (case k7 => k_is)
    (case a8 => k_is); (case l8 => k_is); (case c8 => k_is); (case k8 => k_is)
    (case a9 => k_is); (case l9 => k_is); (case c9 => k_is); (case k9 => k_is)
    (case a10 => k_is); (case l10 => k_is); (case c10 => k_is); (case k10 => k_is)
    (case a11 => k_is); (case l11 => k_is); (case c11 => k_is); (case k11 => k_is)
    (case a12 => k_is); (case l12 => k_is); (case c12 => k_is); (case k12 => k_is)
    (case z_all => k_is); (case z_bool => k_is); (case z_int => k_is); (case z_isinstance => k_is)
    (case z_len => k_is); (case z_list => k_is); (case z_max => k_is); (case z_min => k_is)
    (case z_range => k_is); (case z_set => k_is); (case z_sorted => k_is); (case z_str => k_is)
    (case z_tuple => k_is); (case z_zip => k_is)
